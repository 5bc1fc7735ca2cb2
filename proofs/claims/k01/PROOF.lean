import PyProof.Rows.All
import Wide.All
import OpenK.AllK
import Wide.FinOn
import HandS.ForMost
import HandS.EndBits
import HandS.IsInst
import HandS.Flow
import HandS.Style
import PySem.Challenge.RW_closedright_k01_lattices_joined_cut_and
set_option Elab.async false
section
set_option linter.all false
set_option maxRecDepth 10000
/-! plain mathematics of rows, without any program -/
namespace G
abbrev Row := List Int
abbrev Mat := List (List Int)
def Bd (n : Nat) (i : Int) : Prop := i.natAbs < 2 ^ n
def at0 (r : List Int) (i : Nat) : Int := r.getD i 0
def ent (m : List (List Int)) (i p : Nat) : Int := at0 (m.getD i []) p
theorem range_get {n i : Nat} : (List.range n)[i]? = if i < n then some i else none := by
  split
  · rename_i h
    rw [List.getElem?_range h]
  · rename_i h
    rw [List.getElem?_eq_none (by rw [List.length_range]; omega)]
/-- r without n times o -/
def less (r : List Int) (n : Int) (o : List Int) : List Int := (List.range r.length).map fun i => at0 r i - n * at0 o i
theorem less_length (r : List Int) (n : Int) (o : List Int) : (less r n o).length = r.length := by simp [less]
theorem at0_map_range {n : Nat} {f : Nat → Int} {i : Nat} : at0 ((List.range n).map f) i = if i < n then f i else 0 := by
  unfold at0
  rw [List.getD_eq_getElem?_getD, List.getElem?_map, range_get]
  split <;> simp
theorem at0_out {r : List Int} {i : Nat} (h : r.length ≤ i) : at0 r i = 0 := by
  unfold at0
  rw [List.getD_eq_getElem?_getD, List.getElem?_eq_none h]
  rfl
theorem at0_some {r : List Int} {i : Nat} {z : Int} (h : r[i]? = some z) : at0 r i = z := by
  unfold at0
  rw [List.getD_eq_getElem?_getD, h]
  rfl
theorem at0_get {r : List Int} {i : Nat} (h : i < r.length) : r[i]? = some (at0 r i) := by
  unfold at0
  rw [List.getD_eq_getElem?_getD, List.getElem?_eq_getElem h]
  rfl
theorem at0_less {r o : List Int} {n : Int} {i : Nat} (h : r.length = o.length) : at0 (less r n o) i = at0 r i - n * at0 o i := by
  unfold less
  rw [at0_map_range]
  split
  · rfl
  · rename_i hi
    rw [at0_out (by omega), at0_out (by omega)]
    simp
theorem row_ext {r o : List Int} (h : r.length = o.length) (e : ∀ i, at0 r i = at0 o i) : r = o := by
  apply List.ext_getElem?
  intro i
  by_cases hi : i < r.length
  · rw [at0_get hi, at0_get (by omega), e]
  · rw [List.getElem?_eq_none (by omega), List.getElem?_eq_none (by omega)]
theorem less_zero {r o : List Int} (h : r.length = o.length) : less r 0 o = r := row_ext (less_length _ _ _) fun i => by rw [at0_less h]; simp
/-! ### the row with the least number, not 0, at a place -/
def lbStep (m : List (List Int)) (p : Nat) (b : Option Nat) (i : Nat) : Option Nat :=
  if ent m i p ≠ 0 ∧ (∀ j, b = some j → (ent m i p).natAbs < (ent m j p).natAbs) then some i else b
def lbF (m : List (List Int)) (p n : Nat) : Option Nat := (List.range n).foldl (lbStep m p) none
theorem lbF_succ (m : List (List Int)) (p n : Nat) : lbF m p (n + 1) = lbStep m p (lbF m p n) n := by
  unfold lbF
  rw [List.range_succ, List.foldl_append]
  rfl
def lb (m : List (List Int)) (p : Nat) : Option Nat := lbF m p m.length
theorem lbF_none {m : List (List Int)} {p n : Nat} (h : lbF m p n = none) : ∀ i, i < n → ent m i p = 0 := by
  induction n with
  | zero => intro i hi; omega
  | succ n ih =>
    rw [lbF_succ] at h
    unfold lbStep at h
    split at h
    · cases h
    · rename_i hc
      intro i hi
      by_cases e : i = n
      · subst e
        refine Decidable.byContradiction fun z => hc ⟨z, fun j q => ?_⟩
        rw [h] at q
        cases q
      · exact ih h i (by omega)
theorem lbF_some {m : List (List Int)} {p n b : Nat} (h : lbF m p n = some b) : b < n ∧ ent m b p ≠ 0 ∧ ∀ i, i < n → ent m i p ≠ 0 → (ent m b p).natAbs ≤ (ent m i p).natAbs := by
  induction n generalizing b with
  | zero => cases h
  | succ n ih =>
    rw [lbF_succ] at h
    unfold lbStep at h
    split at h
    · rename_i hc
      cases h
      refine ⟨by omega, hc.1, fun i hi hz => ?_⟩
      cases e : lbF m p n with
      | none =>
        by_cases q : i = n
        · rw [q]; exact Nat.le_refl _
        · exact absurd (lbF_none e i (by omega)) hz
      | some j =>
        obtain ⟨h1, h2, h3⟩ := ih e
        have h4 := hc.2 j e
        by_cases q : i = n
        · rw [q]; exact Nat.le_refl _
        · have := h3 i (by omega) hz
          omega
    · rename_i hc
      obtain ⟨h1, h2, h3⟩ := ih h
      refine ⟨by omega, h2, fun i hi hz => ?_⟩
      by_cases q : i = n
      · subst q
        refine Decidable.byContradiction fun z => hc ⟨hz, fun j e => ?_⟩
        rw [h] at e
        cases e
        omega
      · exact h3 i (by omega) hz
theorem ent_out {m : List (List Int)} {i p : Nat} (h : m.length ≤ i) : ent m i p = 0 := by
  unfold ent
  rw [List.getD_eq_getElem?_getD, List.getElem?_eq_none h]
  exact at0_out (Nat.zero_le _)
theorem lb_none {m : List (List Int)} {p : Nat} (h : lb m p = none) (i : Nat) : ent m i p = 0 := by
  by_cases hi : i < m.length
  · exact lbF_none h i hi
  · exact ent_out (by omega)
theorem lb_some {m : List (List Int)} {p b : Nat} (h : lb m p = some b) : b < m.length ∧ ent m b p ≠ 0 ∧ ∀ i, ent m i p ≠ 0 → (ent m b p).natAbs ≤ (ent m i p).natAbs := by
  obtain ⟨h1, h2, h3⟩ := lbF_some h
  refine ⟨h1, h2, fun i hz => h3 i ?_ hz⟩
  by_cases hi : i < m.length
  · exact hi
  · exact absurd (ent_out (by omega)) hz
/-! ### one round: all rows but one lessened -/
/-- what becomes of a row -/
def lsd (p : Nat) (l r : List Int) : List Int := less r ((at0 r p).fdiv (at0 l p)) l
def rndR (m : List (List Int)) (p b i : Nat) : List Int := if i ≠ b ∧ ent m i p ≠ 0 then lsd p (m.getD b []) (m.getD i []) else m.getD i []
/-- the first n rows are done -/
def rndF (m : List (List Int)) (p b n : Nat) : List (List Int) := (List.range m.length).map fun i => if i < n then rndR m p b i else m.getD i []
def rnd (m : List (List Int)) (p b : Nat) : List (List Int) := (List.range m.length).map (rndR m p b)
theorem getD_map_range {α : Type} {n : Nat} {f : Nat → List α} {i : Nat} : ((List.range n).map f).getD i [] = if i < n then f i else [] := by
  rw [List.getD_eq_getElem?_getD, List.getElem?_map, range_get]
  split <;> simp
theorem list_eq_range {α : Type} (m : List (List α)) : (List.range m.length).map (fun i => m.getD i []) = m := by
  apply List.ext_getElem?
  intro i
  rw [List.getElem?_map, range_get]
  by_cases h : i < m.length
  · rw [if_pos h, List.getElem?_eq_getElem h]
    simp [List.getD_eq_getElem?_getD, List.getElem?_eq_getElem h]
  · rw [if_neg h, List.getElem?_eq_none (by omega)]
    rfl
theorem rndF_zero (m : List (List Int)) (p b : Nat) : rndF m p b 0 = m := by
  unfold rndF
  simp only [Nat.not_lt_zero, if_false]
  exact list_eq_range m
theorem rndF_all (m : List (List Int)) (p b : Nat) : rndF m p b m.length = rnd m p b := by
  unfold rndF rnd
  apply List.map_congr_left
  intro i hi
  rw [if_pos (List.mem_range.mp hi)]
theorem rndF_length (m : List (List Int)) (p b n : Nat) : (rndF m p b n).length = m.length := by simp [rndF]
theorem rnd_length (m : List (List Int)) (p b : Nat) : (rnd m p b).length = m.length := by simp [rnd]
theorem rndF_get {m : List (List Int)} {p b n i : Nat} (h : i < m.length) : (rndF m p b n)[i]? = some (if i < n then rndR m p b i else m.getD i []) := by
  unfold rndF
  rw [List.getElem?_map, range_get, if_pos h]
  rfl
theorem rndF_succ {m : List (List Int)} {p b n : Nat} (h : n < m.length) : rndF m p b (n + 1) = (rndF m p b n).set n (rndR m p b n) := by
  apply List.ext_getElem?
  intro i
  by_cases hi : i < m.length
  · rw [rndF_get hi]
    by_cases e : i = n
    · subst e
      rw [if_pos (by omega), List.getElem?_set_self (by rw [rndF_length]; exact hi)]
    · rw [List.getElem?_set_ne (fun z => e z.symm), rndF_get hi]
      by_cases q : i < n
      · rw [if_pos (by omega), if_pos q]
      · rw [if_neg (by omega), if_neg q]
  · rw [List.getElem?_eq_none (by rw [rndF_length]; omega), List.getElem?_eq_none (by rw [List.length_set, rndF_length]; omega)]
theorem rndF_same {m : List (List Int)} {p b n : Nat} (h : n < m.length) (e : rndR m p b n = m.getD n []) : rndF m p b (n + 1) = rndF m p b n := by
  rw [rndF_succ h, e]
  apply List.ext_getElem?
  intro i
  by_cases q : i = n
  · subst q
    rw [List.getElem?_set_self (by rw [rndF_length]; exact h), rndF_get h, if_neg (by omega)]
  · rw [List.getElem?_set_ne (fun z => q z.symm)]
/-- all rows of one length -/
def Wid (w : Nat) (m : List (List Int)) : Prop := ∀ r ∈ m, r.length = w
theorem Wid.get {w : Nat} {m : List (List Int)} (h : Wid w m) {i : Nat} (hi : i < m.length) : (m.getD i []).length = w := by
  rw [List.getD_eq_getElem?_getD, List.getElem?_eq_getElem hi]
  exact h _ (List.getElem_mem hi)
theorem ent_rnd {m : List (List Int)} {p b i q : Nat} {w : Nat} (hw : Wid w m) (hb : b < m.length) (hi : i < m.length) :
    ent (rnd m p b) i q = if i ≠ b ∧ ent m i p ≠ 0 then ent m i q - (ent m i p).fdiv (ent m b p) * ent m b q else ent m i q := by
  unfold ent rnd
  rw [getD_map_range, if_pos hi]
  unfold rndR
  split
  · rename_i h
    rw [if_pos (by simpa [ent] using h)]
    unfold lsd
    rw [at0_less (by rw [hw.get hi, hw.get hb])]
  · rename_i h
    rw [if_neg (by simpa [ent] using h)]
theorem rnd_wid {m : List (List Int)} {p b w : Nat} (hw : Wid w m) : Wid w (rnd m p b) := by
  intro r hr
  obtain ⟨i, hi, rfl⟩ := List.mem_map.mp hr
  have hi := List.mem_range.mp hi
  unfold rndR
  split
  · unfold lsd
    rw [less_length, hw.get hi]
  · exact hw.get hi
/-- all places of the column but one are 0 -/
def Clean (m : List (List Int)) (p b : Nat) : Prop := ∀ i, i < m.length → i ≠ b → ent m i p = 0
instance (m : List (List Int)) (p b : Nat) : Decidable (Clean m p b) := by unfold Clean; infer_instance
def meas (m : List (List Int)) (p : Nat) : Nat := match lb m p with | none => 0 | some b => (ent m b p).natAbs
theorem fmod_small {a b : Int} (h : b ≠ 0) : (a - a.fdiv b * b).natAbs < b.natAbs := by
  have e : a - a.fdiv b * b = a.fmod b := by
    have := Int.mul_fdiv_add_fmod a b
    rw [Int.mul_comm] at this
    omega
  rw [e]
  rcases Int.lt_or_gt_of_ne h with q | q
  · have h1 := Int.fmod_lt_of_pos (-a) (show 0 < -b by omega)
    have h2 := Int.fmod_nonneg_of_pos (-a) (show 0 < -b by omega)
    rw [Int.neg_fmod_neg] at h1 h2
    omega
  · have h1 := Int.fmod_lt_of_pos a q
    have h2 := Int.fmod_nonneg_of_pos a q
    omega
theorem meas_le {m : List (List Int)} {p i : Nat} (h : ent m i p ≠ 0) : meas m p ≤ (ent m i p).natAbs := by
  unfold meas
  cases e : lb m p with
  | none => exact absurd (lb_none e i) h
  | some b => exact (lb_some e).2.2 i h
theorem meas_rnd {m : List (List Int)} {p b w : Nat} (hw : Wid w m) (e : lb m p = some b) (h : ¬ Clean (rnd m p b) p b) : meas (rnd m p b) p < meas m p := by
  obtain ⟨hb, hz, hm⟩ := lb_some e
  have : ∃ i, i < (rnd m p b).length ∧ i ≠ b ∧ ent (rnd m p b) i p ≠ 0 := by
    refine Classical.byContradiction fun q => h fun i hi hb => ?_
    exact Decidable.byContradiction fun z => q ⟨i, hi, hb, z⟩
  obtain ⟨i, hi, hib, hn⟩ := this
  rw [rnd_length] at hi
  have h1 := meas_le hn
  have h2 : (ent (rnd m p b) i p).natAbs < (ent m b p).natAbs := by
    rw [ent_rnd hw hb hi] at hn ⊢
    split
    · exact fmod_small hz
    · rename_i q
      rw [if_neg q] at hn
      exact absurd ⟨hib, hn⟩ q
  have h3 : meas m p = (ent m b p).natAbs := by
    unfold meas
    rw [e]
  omega
end G
end
section
set_option linter.all false
set_option maxRecDepth 10000
namespace G
/-! ### pulling a row -/
def norm (l : Row) (p : Nat) : Row := if 0 < at0 l p then l else l.map fun x => -x
def pullF : Nat → Mat → Nat → Option Row × Mat
  | 0, m, _ => (none, m)
  | n + 1, m, p => match lb m p with
    | none => (none, m)
    | some b => if Clean (rnd m p b) p b then (some (norm (m.getD b []) p), (rnd m p b).eraseIdx b) else pullF n (rnd m p b) p
def pull (m : Mat) (p : Nat) : Option Row × Mat := pullF (meas m p + 1) m p
theorem pullF_eq {w : Nat} : ∀ {n k : Nat} {m : Mat} {p : Nat}, Wid w m → meas m p < n → meas m p < k → pullF n m p = pullF k m p
  | 0, _, _, _, _, h, _ => by omega
  | _ + 1, 0, _, _, _, _, h => by omega
  | n + 1, k + 1, m, p, hw, h1, h2 => by
    unfold pullF
    cases e : lb m p with
    | none => rfl
    | some b =>
      dsimp only
      split
      · rfl
      · rename_i hc
        have := meas_rnd hw e hc
        exact pullF_eq (rnd_wid hw) (by omega) (by omega)
theorem pull_none {m : Mat} {p : Nat} (e : lb m p = none) : pull m p = (none, m) := by
  unfold pull pullF
  rw [e]
theorem pull_clean {m : Mat} {p b : Nat} (e : lb m p = some b) (h : Clean (rnd m p b) p b) : pull m p = (some (norm (m.getD b []) p), (rnd m p b).eraseIdx b) := by
  unfold pull pullF
  rw [e]
  dsimp only
  rw [if_pos h]
theorem pull_step {m : Mat} {p b w : Nat} (hw : Wid w m) (e : lb m p = some b) (h : ¬ Clean (rnd m p b) p b) : pull m p = pull (rnd m p b) p := by
  have := meas_rnd hw e h
  unfold pull
  rw [pullF, e]
  dsimp only
  rw [if_neg h]
  exact pullF_eq (rnd_wid hw) (by omega) (by omega)
/-- where one alone is not 0 nothing is lessened -/
theorem rnd_alone {m : Mat} {p b : Nat} (h : Clean m p b) : rnd m p b = m := by
  unfold rnd
  conv => rhs; rw [← list_eq_range m]
  apply List.map_congr_left
  intro i hi
  unfold rndR
  rw [if_neg]
  rintro ⟨h1, h2⟩
  exact h2 (h i (List.mem_range.mp hi) h1)
/-! ### how great the numbers become -/
def Le (M : Nat) (m : Mat) : Prop := ∀ i j, (ent m i j).natAbs ≤ M
structure Pot (m : Mat) (p X A F : Nat) : Prop where
  x : Le X m
  a : ∀ i, (ent m i p).natAbs ≤ A
  s : (∀ i, 0 ≤ ent m i p) ∨ ∀ i, ent m i p ≤ 0
  t : ∃ i, i < m.length ∧ (ent m i p).natAbs = A
  f : X * A * (A * meas m p) ≤ F
theorem ent_rnd' {m : Mat} {p b i q w : Nat} (hw : Wid w m) (hb : b < m.length) :
    ent (rnd m p b) i q = if i ≠ b ∧ ent m i p ≠ 0 then ent m i q - (ent m i p).fdiv (ent m b p) * ent m b q else ent m i q := by
  by_cases hi : i < m.length
  · exact ent_rnd hw hb hi
  · rw [ent_out (by rw [rnd_length]; omega), ent_out (m := m) (i := i) (p := p) (by omega), ent_out (m := m) (i := i) (p := q) (by omega)]
    simp
theorem natAbs_sub_le (a b : Int) : (a - b).natAbs ≤ a.natAbs + b.natAbs := by omega
theorem fdiv_abs_le {a b : Int} (h : b ≠ 0) : (a.fdiv b).natAbs ≤ a.natAbs / b.natAbs + 1 := by
  have e := Int.fmod_add_fdiv_mul a b
  have hs := fmod_small (a := a) h
  have e2 : a - a.fdiv b * b = a.fmod b := by omega
  rw [e2] at hs
  have hb : 0 < b.natAbs := by omega
  have h1 : (a.fdiv b * b).natAbs ≤ a.natAbs + (a.fmod b).natAbs := by omega
  rw [Int.natAbs_mul] at h1
  have h2 : (a.fdiv b).natAbs * b.natAbs < (a.natAbs / b.natAbs + 2) * b.natAbs := by
    have := Nat.div_add_mod a.natAbs b.natAbs
    have h3 := Nat.mod_lt a.natAbs hb
    rw [Nat.add_mul, Nat.mul_comm (a.natAbs / b.natAbs)]
    omega
  have := Nat.lt_of_mul_lt_mul_right h2
  omega
theorem fdiv_abs_same {a b : Int} (h : b ≠ 0) (s : (0 ≤ a ∧ 0 ≤ b) ∨ (a ≤ 0 ∧ b ≤ 0)) : (a.fdiv b).natAbs = a.natAbs / b.natAbs := by
  have pos : ∀ a b : Int, 0 ≤ a → 0 < b → (a.fdiv b).natAbs = a.natAbs / b.natAbs := fun a b h1 h2 => by
    obtain ⟨x, rfl⟩ := Int.eq_ofNat_of_zero_le h1
    obtain ⟨y, rfl⟩ := Int.eq_ofNat_of_zero_le (Int.le_of_lt h2)
    rw [Int.fdiv_eq_ediv_of_nonneg _ (Int.le_of_lt h2)]
    simp [← Int.natCast_ediv]
  rcases s with ⟨h1, h2⟩ | ⟨h1, h2⟩
  · exact pos a b h1 (by omega)
  · have := pos (-a) (-b) (by omega) (by omega)
    rw [Int.neg_fdiv_neg] at this
    simpa using this
theorem rem_sign {a b : Int} (h : b ≠ 0) : (0 < b → 0 ≤ a - a.fdiv b * b) ∧ (b < 0 → a - a.fdiv b * b ≤ 0) := by
  have e := Int.fmod_add_fdiv_mul a b
  have e2 : a - a.fdiv b * b = a.fmod b := by omega
  rw [e2]
  refine ⟨fun q => Int.fmod_nonneg_of_pos a q, fun q => ?_⟩
  have h2 := Int.fmod_nonneg_of_pos (-a) (show 0 < -b by omega)
  rw [Int.neg_fmod_neg] at h2
  omega
theorem rem_abs_same {a b : Int} (h : b ≠ 0) (s : (0 ≤ a ∧ 0 ≤ b) ∨ (a ≤ 0 ∧ b ≤ 0)) : (a - a.fdiv b * b).natAbs = a.natAbs % b.natAbs := by
  have e := Int.fmod_add_fdiv_mul a b
  have e2 : a - a.fdiv b * b = a.fmod b := by omega
  rw [e2]
  have pos : ∀ a b : Int, 0 ≤ a → 0 < b → (a.fmod b).natAbs = a.natAbs % b.natAbs := fun a b h1 h2 => by
    obtain ⟨x, rfl⟩ := Int.eq_ofNat_of_zero_le h1
    obtain ⟨y, rfl⟩ := Int.eq_ofNat_of_zero_le (Int.le_of_lt h2)
    rw [Int.fmod_eq_emod_of_nonneg _ (Int.le_of_lt h2)]
    simp [← Int.natCast_emod]
  rcases s with ⟨h1, h2⟩ | ⟨h1, h2⟩
  · exact pos a b h1 (by omega)
  · have := pos (-a) (-b) (by omega) (by omega)
    rw [Int.neg_fmod_neg] at this
    simpa using this
/-- entries behind a round, with the quotients bounded -/
theorem rnd_le {m : Mat} {p b w X q : Nat} (hw : Wid w m) (hb : b < m.length) (hx : Le X m) (hq : ∀ i, ((ent m i p).fdiv (ent m b p)).natAbs ≤ q) : Le (X * (1 + q)) (rnd m p b) := by
  intro i j
  rw [ent_rnd' hw hb]
  have h1 := hx i j
  have h2 := hx b j
  have h3 : X ≤ X * (1 + q) := Nat.le_mul_of_pos_right _ (by omega)
  split
  · refine Nat.le_trans (natAbs_sub_le _ _) ?_
    rw [Int.natAbs_mul, Nat.mul_add, Nat.mul_one, Nat.mul_comm X q]
    exact Nat.add_le_add h1 (Nat.mul_le_mul (hq i) h2)
  · omega
theorem meas_eq {m : Mat} {p b : Nat} (e : lb m p = some b) : meas m p = (ent m b p).natAbs := by
  unfold meas
  rw [e]
theorem rnd_col {m : Mat} {p b w : Nat} (hw : Wid w m) (e : lb m p = some b) (i : Nat) : (ent (rnd m p b) i p).natAbs ≤ meas m p ∧ (i ≠ b → (ent (rnd m p b) i p).natAbs < meas m p) ∧ ent (rnd m p b) b p = ent m b p := by
  obtain ⟨hb, hz, hm⟩ := lb_some e
  have e0 := meas_eq e
  have hbb : ent (rnd m p b) b p = ent m b p := by
    rw [ent_rnd' hw hb, if_neg (by simp)]
  have key : i ≠ b → (ent (rnd m p b) i p).natAbs < meas m p := fun hi => by
    rw [ent_rnd' hw hb]
    split
    · rw [e0]
      exact fmod_small hz
    · rename_i h
      have : ent m i p = 0 := Decidable.byContradiction fun z => h ⟨hi, z⟩
      rw [this]
      omega
  refine ⟨?_, key, hbb⟩
  by_cases h : i = b
  · rw [h, hbb]
    omega
  · exact Nat.le_of_lt (key h)
theorem rnd_sign {m : Mat} {p b w : Nat} (hw : Wid w m) (e : lb m p = some b) : (∀ i, 0 ≤ ent (rnd m p b) i p) ∨ ∀ i, ent (rnd m p b) i p ≤ 0 := by
  obtain ⟨hb, hz, hm⟩ := lb_some e
  rcases Int.lt_or_gt_of_ne hz with q | q
  · refine .inr fun i => ?_
    rw [ent_rnd' hw hb]
    split
    · exact (rem_sign hz).2 q
    · rename_i h
      by_cases hi : i = b
      · rw [hi]; omega
      · have : ent m i p = 0 := Decidable.byContradiction fun z => h ⟨hi, z⟩
        omega
  · refine .inl fun i => ?_
    rw [ent_rnd' hw hb]
    split
    · exact (rem_sign hz).1 q
    · rename_i h
      by_cases hi : i = b
      · rw [hi]; omega
      · have : ent m i p = 0 := Decidable.byContradiction fun z => h ⟨hi, z⟩
        omega
theorem pos_of_dirty {m : Mat} {p b w : Nat} (hw : Wid w m) (e : lb m p = some b) (h : ¬ Clean (rnd m p b) p b) : ∃ i, i ≠ b ∧ ent (rnd m p b) i p ≠ 0 := by
  refine Classical.byContradiction fun q => h fun i _ hb => ?_
  exact Decidable.byContradiction fun z => q ⟨i, hb, z⟩
theorem Pot.step {m : Mat} {p b w X A F : Nat} (P : Pot m p X A F) (hw : Wid w m) (e : lb m p = some b) :
    Le (X * (1 + A / meas m p)) (rnd m p b) ∧ X * (1 + A / meas m p) ≤ 2 * F ∧ X ≤ F ∧ (¬ Clean (rnd m p b) p b → Pot (rnd m p b) p (X * (1 + A / meas m p)) (meas m p) F) := by
  obtain ⟨hb, hz, hm⟩ := lb_some e
  have e0 := meas_eq e
  have a1 : 0 < meas m p := by omega
  have aA : meas m p ≤ A := e0 ▸ P.a b
  have sgn : ∀ i, (0 ≤ ent m i p ∧ 0 ≤ ent m b p) ∨ (ent m i p ≤ 0 ∧ ent m b p ≤ 0) := fun i => by
    rcases P.s with s | s
    · exact .inl ⟨s i, s b⟩
    · exact .inr ⟨s i, s b⟩
  have hq : ∀ i, ((ent m i p).fdiv (ent m b p)).natAbs ≤ A / meas m p := fun i => by
    rw [fdiv_abs_same hz (sgn i), ← e0]
    exact Nat.div_le_div_right (P.a i)
  have hle := rnd_le hw hb P.x hq
  have h2A : (1 + A / meas m p) * meas m p ≤ 2 * A := by
    rw [Nat.add_mul, Nat.one_mul]
    have := Nat.div_mul_le_self A (meas m p)
    omega
  have hXA : X * A ≤ F := by
    refine Nat.le_trans ?_ P.f
    exact Nat.le_mul_of_pos_right _ (Nat.mul_pos (by omega) a1)
  have hX2 : X * (1 + A / meas m p) * meas m p ≤ 2 * (X * A) := by
    rw [Nat.mul_assoc]
    refine Nat.le_trans (Nat.mul_le_mul_left X h2A) ?_
    rw [Nat.mul_left_comm]
    exact Nat.le_refl _
  refine ⟨hle, ?_, ?_, fun hc => ?_⟩
  · have : X * (1 + A / meas m p) ≤ X * (1 + A / meas m p) * meas m p := Nat.le_mul_of_pos_right _ a1
    omega
  · exact Nat.le_trans (Nat.le_mul_of_pos_right _ (by omega)) hXA
  · obtain ⟨i1, hi1, hn1⟩ := pos_of_dirty hw e hc
    have hsm : 2 * meas (rnd m p b) p ≤ A := by
      have h1 := meas_le hn1
      have h2 := (rnd_col hw e i1).2.1 hi1
      obtain ⟨i0, hi0, hA⟩ := P.t
      by_cases hEq : A = meas m p
      · -- then all is clean
        exfalso
        rw [ent_rnd' hw hb] at hn1
        split at hn1
        · rename_i hc1
          have hge := hm i1 hc1.2
          have hle1 := P.a i1
          have e1 : (ent m i1 p).natAbs = (ent m b p).natAbs := by omega
          have h3 := rem_abs_same hz (sgn i1)
          rw [e1, Nat.mod_self] at h3
          exact hn1 (Int.natAbs_eq_zero.mp h3)
        · rename_i hc1
          exact hc1 ⟨hi1, hn1⟩
      · have hib : i0 ≠ b := fun z => by
          rw [z] at hA
          omega
        have h0 : ent m i0 p ≠ 0 := by omega
        have h4 : (ent (rnd m p b) i0 p).natAbs = A % meas m p := by
          rw [ent_rnd' hw hb, if_pos ⟨hib, h0⟩, rem_abs_same hz (sgn i0), hA, e0]
        by_cases hr : A % meas m p = 0
        · have h5 : 2 * meas m p ≤ A := by
            have := Nat.div_add_mod A (meas m p)
            rw [hr, Nat.add_zero] at this
            have h6 : 2 ≤ A / meas m p := by
              refine Decidable.byContradiction fun z => ?_
              have h7 : A / meas m p = 0 ∨ A / meas m p = 1 := by
                generalize A / meas m p = k at z
                omega
              rcases h7 with h7 | h7 <;> (rw [h7] at this; omega)
            have := Nat.mul_le_mul_left (meas m p) h6
            omega
          omega
        · have h5 : ent (rnd m p b) i0 p ≠ 0 := by omega
          have h6 := meas_le h5
          have h7 : A % meas m p ≤ A - meas m p := by
            have h8 := Nat.div_add_mod A (meas m p)
            have h9 : 1 ≤ A / meas m p := Nat.div_pos aA a1
            have := Nat.mul_le_mul_left (meas m p) h9
            omega
          omega
    refine ⟨hle, fun i => (rnd_col hw e i).1, rnd_sign hw e, ⟨b, by rw [rnd_length]; exact hb, by rw [(rnd_col hw e b).2.2, e0]⟩, ?_⟩
    refine Nat.le_trans ?_ P.f
    have h1 : X * (1 + A / meas m p) * meas m p * (meas m p * meas (rnd m p b) p) ≤ 2 * (X * A) * (meas m p * meas (rnd m p b) p) := Nat.mul_le_mul_right _ hX2
    refine Nat.le_trans h1 ?_
    have h2 : 2 * (X * A) * (meas m p * meas (rnd m p b) p) = X * A * (meas m p * (2 * meas (rnd m p b) p)) := by
      rw [Nat.mul_comm 2 (X * A), Nat.mul_assoc (X * A), Nat.mul_left_comm 2]
    rw [h2]
    refine Nat.mul_le_mul_left _ ?_
    rw [Nat.mul_comm A]
    exact Nat.mul_le_mul_left _ hsm
/-- a state of the pull of a matrix whose numbers are at most M -/
def PB (M : Nat) (m : Mat) (p : Nat) : Prop := Le M m ∨ ∃ X A, Pot m p X A (3 * M ^ 4)
theorem pow4 (M : Nat) : M ^ 4 = M * M * (M * M) := by
  show M ^ (2 + 2) = _
  rw [Nat.pow_add, Nat.pow_two]
theorem PB.step {M : Nat} {m : Mat} {p b w : Nat} (h : PB M m p) (hM : 0 < M) (hw : Wid w m) (e : lb m p = some b) :
    Le (3 * M ^ 4) m ∧ Le (6 * M ^ 4) (rnd m p b) ∧ (¬ Clean (rnd m p b) p b → PB M (rnd m p b) p) := by
  have hp4 := pow4 M
  have hMM : 1 ≤ M * M := Nat.mul_pos hM hM
  have hM2 : M ≤ M * M := Nat.le_mul_of_pos_right _ hM
  have hM4 : M * M ≤ M * M * (M * M) := Nat.le_mul_of_pos_right _ hMM
  rcases h with h | ⟨X, A, P⟩
  · obtain ⟨hb, hz, hm⟩ := lb_some e
    have e0 := meas_eq e
    have a1 : 0 < meas m p := by omega
    have aM : meas m p ≤ M := e0 ▸ h b p
    have hq : ∀ i, ((ent m i p).fdiv (ent m b p)).natAbs ≤ M / meas m p + 1 := fun i => by
      refine Nat.le_trans (fdiv_abs_le hz) ?_
      rw [← e0]
      exact Nat.add_le_add_right (Nat.div_le_div_right (h i p)) 1
    have hle := rnd_le hw hb h hq
    have hd : M / meas m p ≤ M := Nat.div_le_self _ _
    refine ⟨fun i j => ?_, fun i j => ?_, fun hc => .inr ⟨_, meas m p, hle, fun i => (rnd_col hw e i).1, rnd_sign hw e, ⟨b, by rw [rnd_length]; exact hb, by rw [(rnd_col hw e b).2.2, e0]⟩, ?_⟩⟩
    · have := h i j
      omega
    · refine Nat.le_trans (hle i j) ?_
      have h1 : M * (1 + (M / meas m p + 1)) ≤ M * (3 * M) := Nat.mul_le_mul_left M (by omega)
      have h2 : M * (3 * M) = 3 * (M * M) := Nat.mul_left_comm M 3 M
      omega
    · obtain ⟨i1, hi1, hn1⟩ := pos_of_dirty hw e hc
      have h1 := meas_le hn1
      have h2 := (rnd_col hw e i1).2.1 hi1
      have h3 : (1 + (M / meas m p + 1)) * meas m p ≤ 3 * M := by
        rw [Nat.add_mul, Nat.add_mul, Nat.one_mul]
        have := Nat.div_mul_le_self M (meas m p)
        omega
      have h4 : M * (1 + (M / meas m p + 1)) * meas m p ≤ 3 * (M * M) := by
        rw [Nat.mul_assoc]
        refine Nat.le_trans (Nat.mul_le_mul_left M h3) ?_
        rw [Nat.mul_left_comm]
        exact Nat.le_refl _
      have h5 : meas m p * meas (rnd m p b) p ≤ M * M := Nat.mul_le_mul aM (by omega)
      refine Nat.le_trans (Nat.mul_le_mul h4 h5) ?_
      rw [hp4, Nat.mul_assoc]
      exact Nat.le_refl _
  · obtain ⟨h1, h2, h3, h4⟩ := P.step hw e
    refine ⟨fun i j => Nat.le_trans (P.x i j) h3, fun i j => Nat.le_trans (h1 i j) (by omega), fun hc => .inr ⟨_, _, h4 hc⟩⟩
end G
end
section
set_option linter.all false
set_option maxRecDepth 10000
namespace G
/-! ### a pull, told -/
theorem pull_cases {w p : Nat} {P : Mat → Prop} (hs : ∀ m b, Wid w m → P m → lb m p = some b → ¬ Clean (rnd m p b) p b → P (rnd m p b)) : ∀ (n : Nat) (m : Mat), meas m p < n → Wid w m → P m →
    (pull m p = (none, m) ∧ lb m p = none) ∨ ∃ m1 b, Wid w m1 ∧ m1.length = m.length ∧ P m1 ∧ lb m1 p = some b ∧ Clean (rnd m1 p b) p b ∧ pull m p = (some (norm (m1.getD b []) p), (rnd m1 p b).eraseIdx b)
  | 0, m, h, _, _ => by omega
  | n + 1, m, h, hw, hP => by
    cases e : lb m p with
    | none => exact .inl ⟨pull_none e, rfl⟩
    | some b =>
      by_cases hc : Clean (rnd m p b) p b
      · exact .inr ⟨m, b, hw, rfl, hP, e, hc, pull_clean e hc⟩
      · have h1 := meas_rnd hw e hc
        rw [pull_step hw e hc]
        rcases pull_cases hs n (rnd m p b) (by omega) (rnd_wid hw) (hs m b hw hP e hc) with ⟨_, q⟩ | ⟨m1, b1, h2, h3, h4⟩
        · -- the round left something that is not 0
          obtain ⟨i, _, hi⟩ := pos_of_dirty hw e hc
          exact absurd (lb_none q i) hi
        · exact .inr ⟨m1, b1, h2, by rw [h3, rnd_length], h4⟩
/-- numbers of a row at most X -/
def RB (X : Nat) (r : Row) : Prop := ∀ j, (at0 r j).natAbs ≤ X
theorem getD_mem {m : Mat} {i : Nat} (h : i < m.length) : m.getD i [] ∈ m := by
  rw [List.getD_eq_getElem?_getD, List.getElem?_eq_getElem h]
  exact List.getElem_mem h
theorem mem_getD {m : Mat} {r : Row} (h : r ∈ m) : ∃ i, i < m.length ∧ m.getD i [] = r := by
  obtain ⟨i, hi, e⟩ := List.getElem_of_mem h
  exact ⟨i, hi, by rw [List.getD_eq_getElem?_getD, List.getElem?_eq_getElem hi]; exact e⟩
theorem le_iff {X : Nat} {m : Mat} : Le X m ↔ ∀ r ∈ m, RB X r := by
  constructor
  · intro h r hr j
    obtain ⟨i, _, e⟩ := mem_getD hr
    have := h i j
    unfold ent at this
    rw [e] at this
    exact this
  · intro h i j
    by_cases hi : i < m.length
    · exact h _ (getD_mem hi) j
    · rw [ent_out (by omega)]
      exact Nat.zero_le _
theorem at0_neg {l : Row} {i : Nat} : at0 (l.map fun x => -x) i = - at0 l i := by
  unfold at0
  rw [List.getD_eq_getElem?_getD, List.getD_eq_getElem?_getD, List.getElem?_map]
  cases l[i]? <;> simp
theorem at0_norm {l : Row} {p i : Nat} : (at0 (norm l p) i).natAbs = (at0 l i).natAbs := by
  unfold norm
  split
  · rfl
  · rw [at0_neg]
    omega
theorem norm_length {l : Row} {p : Nat} : (norm l p).length = l.length := by
  unfold norm
  split <;> simp
theorem norm_pos {l : Row} {p : Nat} (h : at0 l p ≠ 0) : 0 < at0 (norm l p) p := by
  unfold norm
  split
  · assumption
  · rw [at0_neg]
    omega
/-- what a pull that finds a row does -/
structure Pulled (w p b : Nat) (m : Mat) (r : Row) (m' : Mat) : Prop where
  rl : r.length = w
  wid : Wid w m'
  len : m'.length + 1 = m.length
  pos : 0 < at0 r p
  zero : ∀ i, ent m' i p = 0
theorem erase_mem {m : Mat} {i : Nat} {r : Row} (h : r ∈ m.eraseIdx i) : r ∈ m := List.mem_of_mem_eraseIdx h
theorem ent_erase {m : Mat} {b i p : Nat} (h : Clean m p b) : ent (m.eraseIdx b) i p = 0 := by
  unfold ent
  rw [List.getD_eq_getElem?_getD, List.getElem?_eraseIdx]
  split
  · rename_i hi
    have hz := h i
    unfold ent at hz
    rw [List.getD_eq_getElem?_getD] at hz
    by_cases hl : i < m.length
    · exact hz hl (by omega)
    · rw [List.getElem?_eq_none (by omega)]
      exact at0_out (Nat.zero_le _)
  · rename_i hi
    have hz := h (i + 1)
    unfold ent at hz
    rw [List.getD_eq_getElem?_getD] at hz
    by_cases hl : i + 1 < m.length
    · exact hz hl (by omega)
    · rw [List.getElem?_eq_none (by omega)]
      exact at0_out (Nat.zero_le _)
theorem clean_rnd {m : Mat} {p b : Nat} (h : Clean (rnd m p b) p b) : Clean (rnd m p b) p b := h
theorem bits4 {b : Nat} : 6 * (2 ^ b) ^ 4 ≤ 2 ^ (4 * b + 3) := by
  rw [Nat.pow_add, ← Nat.pow_mul, Nat.mul_comm b 4, Nat.mul_comm]
  exact Nat.mul_le_mul_left _ (by decide)
theorem bits3 {b : Nat} : 3 * (2 ^ b) ^ 4 ≤ 2 ^ (4 * b + 2) := by
  rw [Nat.pow_add, ← Nat.pow_mul, Nat.mul_comm b 4, Nat.mul_comm]
  exact Nat.mul_le_mul_left _ (by decide)
/-- the row that is pulled, and what is left -/
theorem pull_some {w p : Nat} {m : Mat} {r : Row} {m' : Mat} (hw : Wid w m) (h : pull m p = (some r, m')) : r.length = w ∧ Wid w m' ∧ m'.length + 1 = m.length ∧ 0 < at0 r p ∧ (∀ i, ent m' i p = 0) := by
  rcases pull_cases (w := w) (p := p) (P := fun _ => True) (fun _ _ _ _ _ _ => trivial) _ m (Nat.lt_succ_self _) hw trivial with ⟨q, _⟩ | ⟨m1, b, h1, h2, _, h3, h4, q⟩
  · rw [q] at h
    cases h
  · rw [q] at h
    injection h with ha hb
    injection ha with ha
    subst ha hb
    obtain ⟨hb, hz, _⟩ := lb_some h3
    refine ⟨by rw [norm_length]; exact h1.get hb, fun r hr => rnd_wid h1 r (erase_mem hr), ?_, norm_pos hz, fun i => ent_erase h4⟩
    rw [List.length_eraseIdx, rnd_length, if_pos hb]
    omega
theorem pull_no {w p : Nat} {m m' : Mat} (hw : Wid w m) (h : pull m p = (none, m')) : m' = m ∧ ∀ i, ent m i p = 0 := by
  rcases pull_cases (w := w) (p := p) (P := fun _ => True) (fun _ _ _ _ _ _ => trivial) _ m (Nat.lt_succ_self _) hw trivial with ⟨q, e⟩ | ⟨m1, b, h1, h2, _, h3, h4, q⟩
  · rw [q] at h
    injection h with _ hb
    exact ⟨hb.symm, lb_none e⟩
  · rw [q] at h
    cases h
/-- what is so of all rows and stays with sums stays with a pull -/
theorem pull_all {w p : Nat} {m : Mat} {S : Row → Prop} (hw : Wid w m) (hS : ∀ r ∈ m, S r) (hl : ∀ r o n, r.length = w → o.length = w → S r → S o → S (less r n o)) (hn : ∀ r, r.length = w → S r → S (r.map fun x => -x)) :
    (∀ r, (pull m p).1 = some r → S r) ∧ ∀ r ∈ (pull m p).2, S r := by
  have rs : ∀ m b, Wid w m → b < m.length → (∀ r ∈ m, S r) → ∀ r ∈ rnd m p b, S r := fun m b hw hb h r hr => by
    obtain ⟨i, hi, rfl⟩ := List.mem_map.mp hr
    have hi := List.mem_range.mp hi
    unfold rndR
    split
    · exact hl _ _ _ (hw.get hi) (hw.get hb) (h _ (getD_mem hi)) (h _ (getD_mem hb))
    · exact h _ (getD_mem hi)
  rcases pull_cases (w := w) (p := p) (P := fun m => ∀ r ∈ m, S r) (fun m b h1 h2 h3 _ => rs m b h1 (lb_some h3).1 h2) _ m (Nat.lt_succ_self _) hw hS with ⟨q, e⟩ | ⟨m1, b, h1, h2, hP, h3, h4, q⟩
  · rw [q]
    exact ⟨fun r h => (by cases h), hS⟩
  · rw [q]
    have hb := (lb_some h3).1
    refine ⟨fun r h => ?_, fun r hr => rs m1 b h1 hb hP r (erase_mem hr)⟩
    cases h
    unfold norm
    split
    · exact hP _ (getD_mem hb)
    · exact hn _ (h1.get hb) (hP _ (getD_mem hb))
/-- sizes behind a pull -/
theorem pull_size {w p b : Nat} {m : Mat} (hw : Wid w m) (h : Le (2 ^ b) m) : (∀ r, (pull m p).1 = some r → RB (2 ^ (4 * b + 3)) r) ∧ Le (2 ^ (4 * b + 3)) (pull m p).2 := by
  have hp : 0 < 2 ^ b := Nat.pow_pos (by decide)
  have hm : (2 ^ b) ≤ 2 ^ (4 * b + 3) := Nat.pow_le_pow_right (by decide) (by omega)
  rcases pull_cases (w := w) (p := p) (P := fun m => PB (2 ^ b) m p) (fun m b h1 h2 h3 h4 => (h2.step hp h1 h3).2.2 h4) _ m (Nat.lt_succ_self _) hw (.inl h) with ⟨q, e⟩ | ⟨m1, b1, h1, h2, hP, h3, h4, q⟩
  · rw [q]
    exact ⟨fun r h => (by cases h), fun i j => Nat.le_trans (h i j) hm⟩
  · rw [q]
    obtain ⟨a1, a2, _⟩ := hP.step hp h1 h3
    have hb := (lb_some h3).1
    refine ⟨fun r h => ?_, le_iff.mpr fun r hr => ?_⟩
    · cases h
      intro j
      rw [at0_norm]
      refine Nat.le_trans (a1 b1 j) (Nat.le_trans bits3 (Nat.pow_le_pow_right (by decide) (by omega)))
    · intro j
      exact Nat.le_trans (le_iff.mp a2 r (erase_mem hr) j) bits4
/-! ### stairs -/
def stStep (s : Mat × Mat) (p : Nat) : Mat × Mat := match pull s.2 p with
  | (none, l) => (s.1, l)
  | (some r, l) => (s.1.map (lsd p r) ++ [r], l)
def stF (m : Mat) (n : Nat) : Mat × Mat := (List.range n).foldl stStep ([], m)
theorem stF_zero (m : Mat) : stF m 0 = ([], m) := rfl
theorem stF_succ (m : Mat) (n : Nat) : stF m (n + 1) = stStep (stF m n) n := by
  unfold stF
  rw [List.range_succ, List.foldl_append]
  rfl
def stairs (m : Mat) (w : Nat) : Mat := (stF m w).1
/-- the places of the leads are told: rows in order -/
structure Hs (w : Nat) (S : Mat) (L : List Nat) : Prop where
  len : S.length = L.length
  wid : Wid w S
  up : ∀ (i j a b : Nat), i < j → L[i]? = some a → L[j]? = some b → a < b
  lt : ∀ (i q : Nat), L[i]? = some q → q < w
  zero : ∀ (i q j : Nat), L[i]? = some q → j < q → ent S i j = 0
  pos : ∀ (i q : Nat), L[i]? = some q → 0 < ent S i q
  red : ∀ (i k q : Nat), i < k → L[k]? = some q → 0 ≤ ent S i q ∧ ent S i q < ent S k q
theorem lsd_length {p : Nat} {l r : Row} : (lsd p l r).length = r.length := less_length _ _ _
theorem at0_lsd {p i : Nat} {l r : Row} (h : r.length = l.length) : at0 (lsd p l r) i = at0 r i - (at0 r p).fdiv (at0 l p) * at0 l i := at0_less h
theorem lsd_rem {p : Nat} {l r : Row} (h : r.length = l.length) (hp : 0 < at0 l p) : 0 ≤ at0 (lsd p l r) p ∧ at0 (lsd p l r) p < at0 l p := by
  rw [at0_lsd h]
  have h1 := (rem_sign (a := at0 r p) (b := at0 l p) (by omega)).1 hp
  have h2 := fmod_small (a := at0 r p) (b := at0 l p) (by omega)
  omega
theorem ent_app {S : Mat} {r : Row} {i j : Nat} : ent (S ++ [r]) i j = if i < S.length then ent S i j else if i = S.length then at0 r j else 0 := by
  unfold ent
  rw [List.getD_eq_getElem?_getD, List.getElem?_append]
  split
  · rw [List.getD_eq_getElem?_getD]
  · split
    · rename_i h1 h2
      simp [h2]
    · rename_i h1 h2
      rw [List.getElem?_eq_none (by simp; omega)]
      exact at0_out (Nat.zero_le _)
theorem ent_map {S : Mat} {f : Row → Row} {i j : Nat} (h : i < S.length) : ent (S.map f) i j = at0 (f (S.getD i [])) j := by
  unfold ent
  rw [List.getD_eq_getElem?_getD, List.getElem?_map, List.getD_eq_getElem?_getD, List.getElem?_eq_getElem h]
  rfl
theorem Hs.snoc {w p : Nat} {S : Mat} {L : List Nat} {r : Row} (h : Hs w S L) (hp : p < w) (hL : ∀ q ∈ L, q < p) (hr : r.length = w) (hz : ∀ j, j < p → at0 r j = 0) (hpos : 0 < at0 r p) : Hs w (S.map (lsd p r) ++ [r]) (L ++ [p]) := by
  have wl : ∀ i, i < S.length → (S.getD i []).length = r.length := fun i hi => by rw [h.wid.get hi, hr]
  have same : ∀ i j, i < S.length → j < p → ent (S.map (lsd p r)) i j = ent S i j := fun i j hi hj => by
    rw [ent_map hi, at0_lsd (wl i hi), hz j hj]
    simp [ent]
  have lk : ∀ {i q}, (L ++ [p])[i]? = some q → (i < S.length ∧ L[i]? = some q) ∨ (i = S.length ∧ q = p) := fun {i q} e => by
    rw [List.getElem?_append] at e
    split at e
    · exact .inl ⟨by rw [h.len]; assumption, e⟩
    · rename_i hi
      by_cases h0 : i = L.length
      · rw [h0] at e
        simp at e
        exact .inr ⟨by rw [h.len]; exact h0, e.symm⟩
      · rw [List.getElem?_eq_none (by simp; omega)] at e
        cases e
  have ml : (S.map (lsd p r)).length = S.length := List.length_map ..
  refine ⟨by simp [h.len], ?_, ?_, ?_, ?_, ?_, ?_⟩
  · intro x hx
    rcases List.mem_append.mp hx with q | q
    · obtain ⟨y, hy, rfl⟩ := List.mem_map.mp q
      rw [lsd_length]
      exact h.wid y hy
    · rw [List.mem_singleton.mp q]
      exact hr
  · intro i j a b hij ha hb
    rcases lk ha with ⟨h1, h2⟩ | ⟨h1, rfl⟩ <;> rcases lk hb with ⟨h3, h4⟩ | ⟨h3, rfl⟩
    · exact h.up i j a b hij h2 h4
    · exact hL a (List.mem_of_getElem? h2)
    · omega
    · omega
  · intro i q e
    rcases lk e with ⟨_, h2⟩ | ⟨_, rfl⟩
    · exact h.lt i q h2
    · exact hp
  · intro i q j e hj
    rw [ent_app, ml]
    rcases lk e with ⟨h1, h2⟩ | ⟨h1, rfl⟩
    · rw [if_pos h1, same i j h1 (Nat.lt_trans hj (hL q (List.mem_of_getElem? h2)))]
      exact h.zero i q j h2 hj
    · rw [if_neg (by omega), if_pos h1]
      exact hz j hj
  · intro i q e
    rw [ent_app, ml]
    rcases lk e with ⟨h1, h2⟩ | ⟨h1, rfl⟩
    · rw [if_pos h1, same i q h1 (hL q (List.mem_of_getElem? h2))]
      exact h.pos i q h2
    · rw [if_neg (by omega), if_pos h1]
      exact hpos
  · intro i k q hik e
    rw [ent_app, ent_app, ml]
    rcases lk e with ⟨h1, h2⟩ | ⟨h1, rfl⟩
    · rw [if_pos h1, if_pos (show i < S.length by omega), same i q (by omega) (hL q (List.mem_of_getElem? h2)), same k q h1 (hL q (List.mem_of_getElem? h2))]
      exact h.red i k q hik h2
    · rw [if_pos (show i < S.length by omega), if_neg (show ¬ k < S.length by omega), if_pos h1, ent_map (by omega)]
      exact lsd_rem (wl i (by omega)) hpos
theorem hs_nil {w : Nat} : Hs w [] [] := ⟨rfl, fun _ h => (by cases h), fun i j a b _ h => (by simp at h), fun i q h => (by simp at h), fun i q j h => (by simp at h), fun i q h => (by simp at h), fun i k q _ h => (by simp at h)⟩
/-- what stands behind n places -/
structure Sts (w n : Nat) (m : Mat) (s : Mat × Mat) (L : List Nat) : Prop where
  h : Hs w s.1 L
  l : ∀ q ∈ L, q < n
  wid : Wid w s.2
  z : ∀ i j, j < n → ent s.2 i j = 0
theorem Sts.step {w n : Nat} {m : Mat} {s : Mat × Mat} {L : List Nat} (h : Sts w n m s L) (hn : n < w) : ∃ L', Sts w (n + 1) m (stStep s n) L' := by
  have hz := pull_all (w := w) (p := n) (S := fun r => ∀ j, j < n → at0 r j = 0) h.wid (fun r hr j hj => by
    obtain ⟨i, _, e⟩ := mem_getD hr
    have := h.z i j hj
    unfold ent at this
    rw [e] at this
    exact this) (fun r o k h1 h2 h3 h4 j hj => by rw [at0_less (by omega), h3 j hj, h4 j hj]; simp) (fun r h1 h2 j hj => by rw [at0_neg, h2 j hj]; rfl)
  unfold stStep
  cases e : pull s.2 n with
  | mk o l =>
    rw [e] at hz
    have zl : ∀ i j, j < n → ent l i j = 0 := fun i j hj => by
      by_cases hi : i < l.length
      · exact hz.2 _ (getD_mem hi) j hj
      · exact ent_out (by omega)
    cases o with
    | none =>
      obtain ⟨h1, h2⟩ := pull_no h.wid e
      refine ⟨L, h.h, fun q hq => Nat.lt_succ_of_lt (h.l q hq), by rw [h1]; exact h.wid, fun i j hj => ?_⟩
      by_cases q : j = n
      · rw [q, h1]; exact h2 i
      · exact zl i j (by omega)
    | some r =>
      obtain ⟨h1, h2, h3, h4, h5⟩ := pull_some h.wid e
      refine ⟨L ++ [n], h.h.snoc hn h.l h1 (hz.1 r rfl) h4, fun q hq => ?_, h2, fun i j hj => ?_⟩
      · rcases List.mem_append.mp hq with q1 | q1
        · exact Nat.lt_succ_of_lt (h.l q q1)
        · rw [List.mem_singleton.mp q1]; omega
      · by_cases q : j = n
        · rw [q]; exact h5 i
        · exact zl i j (by omega)
theorem sts {w : Nat} {m : Mat} (hw : Wid w m) : ∀ n, n ≤ w → ∃ L, Sts w n m (stF m n) L
  | 0, _ => ⟨[], hs_nil, fun _ h => (by cases h), hw, fun i j h => by omega⟩
  | n + 1, h => by
    obtain ⟨L, q⟩ := sts hw n (by omega)
    rw [stF_succ]
    exact q.step (by omega)
theorem stairs_hs {w : Nat} {m : Mat} (hw : Wid w m) : ∃ L, Hs w (stairs m w) L := let ⟨L, q⟩ := sts hw w (Nat.le_refl w); ⟨L, q.h⟩
end G
end
section
set_option linter.all false
set_option maxRecDepth 10000
namespace G
/-! ### sizes of stairs -/
def lbit (b : Nat) : Nat → Nat
  | 0 => b
  | n + 1 => 4 * lbit b n + 3
def sbit (b : Nat) : Nat → Nat
  | 0 => 0
  | n + 1 => sbit b n + lbit b (n + 1) + 1
theorem lbit_s (b n : Nat) : lbit b (n + 1) = 4 * lbit b n + 3 := rfl
theorem sbit_s (b n : Nat) : sbit b (n + 1) = sbit b n + (4 * lbit b n + 3) + 1 := rfl
theorem lbit_le (b : Nat) : ∀ n, lbit b n + 1 ≤ (b + 1) * 4 ^ n
  | 0 => by simp [lbit]
  | n + 1 => by
    have ih := lbit_le b n
    rw [Nat.pow_succ, ← Nat.mul_assoc]
    unfold lbit
    omega
theorem sbit_le (b : Nat) : ∀ n, sbit b n ≤ 2 * (lbit b n + 1)
  | 0 => by simp [sbit]
  | n + 1 => by
    have ih := sbit_le b n
    unfold sbit lbit
    omega
theorem lbit_mono (b : Nat) {n k : Nat} (h : n ≤ k) : lbit b n ≤ lbit b k := by
  induction k with
  | zero =>
    have : n = 0 := by omega
    subst this
    exact Nat.le_refl _
  | succ k ih =>
    by_cases e : n = k + 1
    · subst e; exact Nat.le_refl _
    · have := ih (by omega)
      rw [lbit_s]
      omega
theorem sbit_mono (b : Nat) {n k : Nat} (h : n ≤ k) : sbit b n ≤ sbit b k := by
  induction k with
  | zero =>
    have : n = 0 := by omega
    subst this
    exact Nat.le_refl _
  | succ k ih =>
    by_cases e : n = k + 1
    · subst e; exact Nat.le_refl _
    · have := ih (by omega)
      rw [sbit_s]
      omega
theorem rb_less {a b : Nat} {p : Nat} {l r : Row} (h : r.length = l.length) (h1 : RB (2 ^ a) r) (h2 : RB (2 ^ b) l) (hq : ((at0 r p).fdiv (at0 l p)).natAbs ≤ 2 ^ a) : RB (2 ^ (a + b + 1)) (lsd p l r) := by
  intro j
  rw [at0_lsd h]
  refine Nat.le_trans (natAbs_sub_le _ _) ?_
  rw [Int.natAbs_mul, Nat.pow_succ, Nat.pow_add]
  have h3 := Nat.mul_le_mul hq (h2 j)
  have h4 := h1 j
  have h5 : 2 ^ a ≤ 2 ^ a * 2 ^ b := Nat.le_mul_of_pos_right _ (Nat.pow_pos (by decide))
  omega
theorem fdiv_abs (a b : Int) : (a.fdiv b).natAbs ≤ a.natAbs := by
  by_cases h : b = 0
  · rw [h, Int.fdiv_zero]
    exact Nat.zero_le _
  · have h1 := fdiv_abs_le (a := a) h
    have hb : 0 < b.natAbs := by omega
    by_cases hb1 : b.natAbs = 1
    · have e : b = 1 ∨ b = -1 := by omega
      rcases e with e | e
      · rw [e, Int.fdiv_one]
        exact Nat.le_refl _
      · rw [e]
        have := Int.neg_fdiv_neg (-a) 1
        rw [Int.neg_neg, Int.fdiv_one] at this
        rw [this]
        omega
    · by_cases ha : a = 0
      · rw [ha, Int.zero_fdiv]
        exact Nat.le_refl _
      · have h2 : a.natAbs / b.natAbs < a.natAbs := Nat.div_lt_self (by omega) (by omega)
        omega
theorem rb_lsd {a b : Nat} {p : Nat} {l r : Row} (h : r.length = l.length) (h1 : RB (2 ^ a) r) (h2 : RB (2 ^ b) l) : RB (2 ^ (a + b + 1)) (lsd p l r) :=
  rb_less h h1 h2 (Nat.le_trans (fdiv_abs _ _) (h1 p))
theorem RB.mono {a b : Nat} {r : Row} (h : RB (2 ^ a) r) (e : a ≤ b) : RB (2 ^ b) r := fun j => Nat.le_trans (h j) (Nat.pow_le_pow_right (by decide) e)
theorem Le.mono {a b : Nat} {r : Mat} (h : Le (2 ^ a) r) (e : a ≤ b) : Le (2 ^ b) r := fun i j => Nat.le_trans (h i j) (Nat.pow_le_pow_right (by decide) e)
/-- widths and sizes at every place -/
theorem stF_inv {w b : Nat} {m : Mat} (hw : Wid w m) (hb : Le (2 ^ b) m) : ∀ n, Wid w (stF m n).1 ∧ Wid w (stF m n).2 ∧ Le (2 ^ sbit b n) (stF m n).1 ∧ Le (2 ^ lbit b n) (stF m n).2 ∧ (stF m n).2.length ≤ m.length ∧ (stF m n).1.length ≤ n ∧ (stF m n).1.length + (stF m n).2.length ≤ m.length
  | 0 => ⟨fun _ h => (by cases h), hw, fun i j => by rw [ent_out (Nat.zero_le _)]; exact Nat.zero_le _, hb, Nat.le_refl _, Nat.le_refl _, by simp [stF_zero]⟩
  | n + 1 => by
    obtain ⟨h1, h2, h3, h4, h5, h6, h7⟩ := stF_inv hw hb n
    rw [stF_succ]
    unfold stStep
    obtain ⟨s1, s2⟩ := pull_size (p := n) h2 h4
    cases e : pull (stF m n).2 n with
    | mk o l =>
      rw [e] at s1 s2
      cases o with
      | none =>
        obtain ⟨a1, _⟩ := pull_no h2 e
        exact ⟨h1, by rw [a1]; exact h2, h3.mono (sbit_mono b (Nat.le_succ n)), by rw [a1]; exact h4.mono (lbit_mono b (Nat.le_succ n)), by rw [a1]; exact h5, by show (stF m n).1.length ≤ _; omega, by show (stF m n).1.length + l.length ≤ _; rw [a1]; exact h7⟩
      | some r =>
        obtain ⟨a1, a2, a3, _, _⟩ := pull_some h2 e
        refine ⟨?_, a2, ?_, s2, by show l.length ≤ _; omega, by show ((stF m n).1.map (lsd n r) ++ [r]).length ≤ _; simp; omega, by show ((stF m n).1.map (lsd n r) ++ [r]).length + l.length ≤ _; simp; omega⟩
        · intro x hx
          rcases List.mem_append.mp hx with q | q
          · obtain ⟨y, hy, rfl⟩ := List.mem_map.mp q
            rw [lsd_length]; exact h1 y hy
          · rw [List.mem_singleton.mp q]; exact a1
        · refine le_iff.mpr fun x hx => ?_
          rcases List.mem_append.mp hx with q | q
          · obtain ⟨y, hy, rfl⟩ := List.mem_map.mp q
            exact (rb_lsd (by rw [h1 y hy, a1]) (le_iff.mp h3 y hy) (s1 r rfl)).mono (by rw [sbit_s]; omega)
          · rw [List.mem_singleton.mp q]
            exact (s1 r rfl).mono (by rw [sbit_s]; omega)
/-! ### the first place that is not 0; what stairs leave of a row -/
def leadAt (r : Row) (q : Nat) : Prop := q < r.length ∧ at0 r q ≠ 0 ∧ ∀ j, j < q → at0 r j = 0
def leadPl (r : Row) : Nat := ((List.range r.length).find? fun i => at0 r i != 0).getD 0
theorem find_range (n : Nat) (f : Nat → Bool) (q : Nat) (h1 : q < n) (h2 : f q = true) (h3 : ∀ j, j < q → f j = false) : (List.range n).find? f = some q := by
  induction n with
  | zero => omega
  | succ n ih =>
    rw [List.range_succ, List.find?_append]
    by_cases e : q < n
    · rw [ih e]; rfl
    · have : q = n := by omega
      subst this
      have h4 : (List.range q).find? f = none := by
        rw [List.find?_eq_none]
        intro x hx
        rw [h3 x (List.mem_range.mp hx)]
        exact Bool.false_ne_true
      rw [h4]
      simp [h2]
theorem leadPl_eq {r : Row} {q : Nat} (h : leadAt r q) : leadPl r = q := by
  unfold leadPl
  rw [find_range r.length _ q h.1 (by simpa using h.2.1) (fun j hj => by simp [h.2.2 j hj])]
  rfl
def redStep (left s : Row) : Row := lsd (leadPl s) s left
def redF (S : Mat) (r : Row) (n : Nat) : Row := (S.take n).foldl redStep r
def red (S : Mat) (r : Row) : Row := S.foldl redStep r
theorem redF_zero (S : Mat) (r : Row) : redF S r 0 = r := rfl
theorem redF_succ {S : Mat} {r : Row} {n : Nat} (h : n < S.length) : redF S r (n + 1) = redStep (redF S r n) (S.getD n []) := by
  unfold redF
  rw [List.take_succ, List.getElem?_eq_getElem h, List.foldl_append, List.getD_eq_getElem?_getD, List.getElem?_eq_getElem h]
  rfl
theorem redF_all (S : Mat) (r : Row) : redF S r S.length = red S r := by
  unfold redF red
  rw [List.take_length]
theorem redF_inv {w a b : Nat} {S : Mat} {r : Row} (hS : Wid w S) (hr : r.length = w) (hb : Le (2 ^ b) S) (ha : RB (2 ^ a) r) : ∀ n, n ≤ S.length → (redF S r n).length = w ∧ RB (2 ^ (a + n * (b + 1))) (redF S r n)
  | 0, _ => ⟨hr, by rw [Nat.zero_mul]; exact ha⟩
  | n + 1, h => by
    obtain ⟨h1, h2⟩ := redF_inv hS hr hb ha n (by omega)
    rw [redF_succ (by omega)]
    have h3 := hS.get (i := n) (by omega)
    refine ⟨by unfold redStep; rw [lsd_length, h1], ?_⟩
    have := rb_lsd (p := leadPl (S.getD n [])) (by rw [h1, h3]) h2 (le_iff.mp hb _ (getD_mem (by omega)))
    refine this.mono ?_
    rw [Nat.add_mul, Nat.one_mul]
    omega
theorem Hs.lead {w : Nat} {S : Mat} {L : List Nat} (h : Hs w S L) {i : Nat} (hi : i < S.length) : ∃ q, q < w ∧ leadAt (S.getD i []) q ∧ L[i]? = some q := by
  have hl : i < L.length := by rw [← h.len]; exact hi
  have e : L[i]? = some L[i] := List.getElem?_eq_getElem hl
  have h1 := h.lt i _ e
  have h2 := h.pos i _ e
  have h3 : ∀ j, j < L[i] → ent S i j = 0 := fun j hj => h.zero i _ j e hj
  exact ⟨L[i], h1, ⟨by rw [h.wid.get hi]; exact h1, by unfold ent at h2; omega, h3⟩, e⟩
end G
end
section
set_option linter.all false
set_option maxRecDepth 10000
namespace G
/-! ### the first w numbers alone -/
theorem at0_take {r : Row} {w i : Nat} : at0 (r.take w) i = if i < w then at0 r i else 0 := by
  unfold at0
  rw [List.getD_eq_getElem?_getD, List.getElem?_take]
  split
  · rw [List.getD_eq_getElem?_getD]
  · rfl
theorem less_take {r o : Row} {n : Int} {w : Nat} (h : r.length = o.length) : (less r n o).take w = less (r.take w) n (o.take w) := by
  apply row_ext
  · rw [List.length_take, less_length, less_length, List.length_take]
  · intro i
    rw [at0_take, at0_less h, at0_less (by rw [List.length_take, List.length_take, h]), at0_take, at0_take]
    split <;> simp
theorem lsd_take {l r : Row} {p w : Nat} (h : r.length = l.length) (hp : p < w) : (lsd p l r).take w = lsd p (l.take w) (r.take w) := by
  unfold lsd
  rw [less_take h, at0_take, at0_take, if_pos hp, if_pos hp]
theorem norm_take {l : Row} {p w : Nat} (hp : p < w) : (norm l p).take w = norm (l.take w) p := by
  unfold norm
  rw [at0_take, if_pos hp]
  split
  · rfl
  · rw [List.map_take]
abbrev tk (w : Nat) (m : Mat) : Mat := m.map fun r => r.take w
theorem getD_tk {m : Mat} {w i : Nat} : (tk w m).getD i [] = (m.getD i []).take w := by
  rw [List.getD_eq_getElem?_getD, List.getD_eq_getElem?_getD, List.getElem?_map]
  cases m[i]? <;> simp
theorem ent_tk {m : Mat} {w i p : Nat} (hp : p < w) : ent (tk w m) i p = ent m i p := by
  unfold ent
  rw [getD_tk, at0_take, if_pos hp]
theorem lb_tk {m : Mat} {w p : Nat} (hp : p < w) : lb (tk w m) p = lb m p := by
  unfold lb lbF
  rw [List.length_map]
  have e : lbStep (tk w m) p = lbStep m p := by
    funext b i
    unfold lbStep
    simp only [ent_tk hp]
  rw [e]
theorem rnd_tk {m : Mat} {w v p b : Nat} (hw : Wid v m) (hp : p < w) (hb : b < m.length) : rnd (tk w m) p b = tk w (rnd m p b) := by
  unfold rnd
  show _ = ((List.range m.length).map (rndR m p b)).map fun r => r.take w
  rw [List.length_map, List.map_map]
  apply List.map_congr_left
  intro i hi
  have hi := List.mem_range.mp hi
  show rndR (tk w m) p b i = (rndR m p b i).take w
  unfold rndR
  rw [ent_tk hp]
  split
  · rw [getD_tk, getD_tk, lsd_take (by rw [hw.get hi, hw.get hb]) hp]
  · rw [getD_tk]
theorem clean_tk {m : Mat} {w p b : Nat} (hp : p < w) : Clean (tk w m) p b ↔ Clean m p b := by
  unfold Clean
  rw [List.length_map]
  simp only [ent_tk hp]
theorem wid_tk {m : Mat} {v w : Nat} (hw : Wid v m) (h : w ≤ v) : Wid w (tk w m) := by
  intro r hr
  obtain ⟨x, hx, rfl⟩ := List.mem_map.mp hr
  rw [List.length_take, hw x hx]
  omega
theorem map_erase {α β : Type} (f : α → β) : ∀ (m : List α) (b : Nat), (m.map f).eraseIdx b = (m.eraseIdx b).map f
  | [], _ => rfl
  | _ :: _, 0 => rfl
  | x :: m, b + 1 => congrArg (f x :: ·) (map_erase f m b)
theorem pull_tk {w v p : Nat} (hp : p < w) (hv : w ≤ v) : ∀ (n : Nat) (m : Mat), meas m p < n → Wid v m → pull (tk w m) p = ((pull m p).1.map fun r => r.take w, tk w (pull m p).2)
  | 0, m, h, _ => by omega
  | n + 1, m, h, hw => by
    cases e : lb m p with
    | none => rw [pull_none e, pull_none (by rw [lb_tk hp]; exact e)]; rfl
    | some b =>
      have e' : lb (tk w m) p = some b := by rw [lb_tk hp]; exact e
      have hb := (lb_some e).1
      have er := rnd_tk hw hp hb
      by_cases hc : Clean (rnd m p b) p b
      · rw [pull_clean e hc, pull_clean e' (by rw [er]; exact (clean_tk hp).mpr hc), er, getD_tk]
        show (some (norm ((m.getD b []).take w) p), (tk w (rnd m p b)).eraseIdx b) = (some ((norm (m.getD b []) p).take w), tk w ((rnd m p b).eraseIdx b))
        rw [norm_take hp, map_erase]
      · rw [pull_step hw e hc, pull_step (wid_tk hw hv) e' (by rw [er]; exact fun z => hc ((clean_tk hp).mp z)), er]
        exact pull_tk hp hv n _ (by have := meas_rnd hw e hc; omega) (rnd_wid hw)
theorem le_sum_mem : ∀ {l : List Nat} {x : Nat}, x ∈ l → x ≤ l.sum
  | y :: l, x, h => by
    rw [List.sum_cons]
    rcases List.mem_cons.mp h with e | e
    · omega
    · have := le_sum_mem e
      omega
theorem stF_tk {w v : Nat} {m : Mat} (hw : Wid v m) (hv : w ≤ v) : ∀ n, n ≤ w → stF (tk w m) n = (tk w (stF m n).1, tk w (stF m n).2)
  | 0, _ => rfl
  | n + 1, h => by
    obtain ⟨h1, h2, _⟩ := stF_inv hw (b := (m.map fun r => (r.map Int.natAbs).sum).sum) (le_iff.mpr fun r hr j => by
      have : (at0 r j).natAbs ≤ (r.map Int.natAbs).sum := by
        by_cases hj : j < r.length
        · have e := at0_get hj
          have hm : at0 r j ∈ r := List.mem_of_getElem? e
          exact le_sum_mem (List.mem_map.mpr ⟨_, hm, rfl⟩)
        · rw [at0_out (by omega)]; exact Nat.zero_le _
      have h3 : (r.map Int.natAbs).sum ≤ (m.map fun r => (r.map Int.natAbs).sum).sum := le_sum_mem (List.mem_map.mpr ⟨r, hr, rfl⟩)
      have h4 : (m.map fun r => (r.map Int.natAbs).sum).sum < 2 ^ (m.map fun r => (r.map Int.natAbs).sum).sum := Nat.lt_two_pow_self
      omega) n
    rw [stF_succ, stF_succ, stF_tk hw hv n (by omega)]
    unfold stStep
    rw [pull_tk (by omega) hv _ _ (Nat.lt_succ_self _) h2]
    cases e : pull (stF m n).2 n with
    | mk o l =>
      cases o with
      | none => rfl
      | some r =>
        obtain ⟨a1, _⟩ := pull_some h2 e
        show ((tk w (stF m n).1).map (lsd n (r.take w)) ++ [r.take w], tk w l) = (tk w ((stF m n).1.map (lsd n r) ++ [r]), tk w l)
        congr 1
        show _ = List.map _ (_ ++ _)
        rw [List.map_append, List.map_map, List.map_map]
        congr 1
        apply List.map_congr_left
        intro x hx
        exact (lsd_take (by rw [h1 x hx, a1]) (by omega)).symm
theorem leadAt_take {r : Row} {q w : Nat} (h : leadAt r q) (hq : q < w) : leadAt (r.take w) q := by
  obtain ⟨h1, h2, h3⟩ := h
  refine ⟨by rw [List.length_take]; omega, by rw [at0_take, if_pos hq]; exact h2, fun j hj => ?_⟩
  rw [at0_take, if_pos (by omega)]
  exact h3 j hj
theorem red_tk {w v : Nat} {S : Mat} (hS : Wid v S) (hl : ∀ i, i < S.length → ∃ q, q < w ∧ leadAt (S.getD i []) q) (r : Row) (hr : r.length = v) : ∀ n, n ≤ S.length → (redF S r n).length = v ∧ (redF S r n).take w = redF (tk w S) (r.take w) n
  | 0, _ => ⟨hr, rfl⟩
  | n + 1, h => by
    obtain ⟨h1, h2⟩ := red_tk hS hl r hr n (by omega)
    obtain ⟨q, q1, q2⟩ := hl n (by omega)
    rw [redF_succ (by omega), redF_succ (by rw [List.length_map]; omega), getD_tk, ← h2]
    unfold redStep
    rw [leadPl_eq q2, leadPl_eq (leadAt_take q2 q1)]
    have := hS.get (i := n) (by omega)
    exact ⟨by rw [lsd_length]; exact h1, lsd_take (by omega) q1⟩
/-! ### sums -/
def sumTo : Nat → (Nat → Int) → Int
  | 0, _ => 0
  | n + 1, f => sumTo n f + f n
theorem sumTo_congr {n : Nat} {f g : Nat → Int} (h : ∀ i, i < n → f i = g i) : sumTo n f = sumTo n g := by
  induction n with
  | zero => rfl
  | succ n ih => unfold sumTo; rw [ih fun i hi => h i (by omega), h n (by omega)]
theorem sumTo_lin {n : Nat} {f g : Nat → Int} {k : Int} : sumTo n (fun i => f i - k * g i) = sumTo n f - k * sumTo n g := by
  induction n with
  | zero => simp [sumTo]
  | succ n ih =>
    show sumTo n (fun i => f i - k * g i) + (f n - k * g n) = sumTo n f + f n - k * (sumTo n g + g n)
    rw [ih, Int.mul_add]
    omega
theorem sumTo_zero {n : Nat} : sumTo n (fun _ => 0) = 0 := by
  induction n with
  | zero => rfl
  | succ n ih => unfold sumTo; rw [ih]; rfl
theorem sumTo_one {n p : Nat} {f : Nat → Int} (h : p < n) : sumTo n (fun i => (if i = p then 1 else 0) * f i) = f p := by
  induction n with
  | zero => omega
  | succ n ih =>
    show sumTo n (fun i => (if i = p then 1 else 0) * f i) + (if n = p then 1 else 0) * f n = f p
    by_cases e : p = n
    · subst e
      rw [if_pos rfl, Int.one_mul]
      have : sumTo p (fun i => (if i = p then 1 else 0) * f i) = sumTo p (fun _ => 0) := sumTo_congr fun i hi => by rw [if_neg (by omega), Int.zero_mul]
      rw [this, sumTo_zero, Int.zero_add]
    · rw [ih (by omega), if_neg (fun z : n = p => e z.symm), Int.zero_mul, Int.add_zero]
/-- amounts times rows -/
def mixM (a : Row) (g : Mat) (w : Nat) : Row := (List.range w).map fun j => sumTo g.length fun i => at0 a i * ent g i j
def unitR (n p : Nat) : Row := (List.range n).map fun i => if i = p then 1 else 0
def numb (m : Mat) : Mat := (List.range m.length).map fun i => m.getD i [] ++ unitR m.length i
theorem at0_app {r o : Row} {i : Nat} : at0 (r ++ o) i = if i < r.length then at0 r i else at0 o (i - r.length) := by
  unfold at0
  rw [List.getD_eq_getElem?_getD, List.getElem?_append]
  split <;> rw [List.getD_eq_getElem?_getD]
theorem numb_wid {w : Nat} {m : Mat} (hw : Wid w m) : Wid (w + m.length) (numb m) := by
  intro r hr
  obtain ⟨i, hi, rfl⟩ := List.mem_map.mp hr
  rw [List.length_append, hw.get (List.mem_range.mp hi)]
  simp [unitR]
theorem numb_length (m : Mat) : (numb m).length = m.length := by simp [numb]
theorem numb_tk {w : Nat} {m : Mat} (hw : Wid w m) : tk w (numb m) = m := by
  show ((List.range m.length).map fun i => m.getD i [] ++ unitR m.length i).map (fun r => r.take w) = m
  rw [List.map_map]
  conv => rhs; rw [← list_eq_range m]
  apply List.map_congr_left
  intro i hi
  have := hw.get (List.mem_range.mp hi)
  show (m.getD i [] ++ unitR m.length i).take w = m.getD i []
  rw [List.take_append_of_le_length (by omega), List.take_of_length_le (by omega)]
theorem numb_le {b : Nat} {m : Mat} (h : Le (2 ^ b) m) : Le (2 ^ b) (numb m) := by
  refine le_iff.mpr fun r hr j => ?_
  obtain ⟨i, hi, rfl⟩ := List.mem_map.mp hr
  have h1 : 1 ≤ 2 ^ b := Nat.pow_pos (by decide)
  rw [at0_app]
  split
  · exact h i j
  · unfold unitR
    rw [at0_map_range]
    split
    · split
      · exact h1
      · exact Nat.zero_le _
    · exact Nat.zero_le _
/-- the first numbers are the sum that the further ones tell, but for base -/
def Tg (g : Mat) (w : Nat) (base r : Row) : Prop := ∀ j, j < w → at0 r j - at0 base j = sumTo g.length fun i => at0 r (w + i) * ent g i j
theorem Tg.less {g : Mat} {w : Nat} {base r o : Row} {k : Int} (h : r.length = o.length) (h1 : Tg g w base r) (h2 : Tg g w [] o) : Tg g w base (less r k o) := fun j hj => by
  have e1 := h1 j hj
  have e2 := h2 j hj
  have e3 : at0 ([] : Row) j = 0 := at0_out (Nat.zero_le _)
  rw [e3, Int.sub_zero] at e2
  rw [at0_less h]
  have e4 : sumTo g.length (fun i => at0 (G.less r k o) (w + i) * ent g i j) = sumTo g.length (fun i => at0 r (w + i) * ent g i j - k * (at0 o (w + i) * ent g i j)) := sumTo_congr fun i _ => by
    rw [at0_less h, Int.sub_mul, Int.mul_assoc]
  rw [e4, sumTo_lin, ← e1, ← e2]
  omega
theorem Tg.neg {g : Mat} {w : Nat} {r : Row} (h1 : Tg g w [] r) : Tg g w [] (r.map fun x => -x) := fun j hj => by
  have e1 := h1 j hj
  have e3 : at0 ([] : Row) j = 0 := at0_out (Nat.zero_le _)
  rw [e3, Int.sub_zero] at e1 ⊢
  rw [at0_neg, e1]
  have e4 : sumTo g.length (fun i => at0 (r.map fun x => -x) (w + i) * ent g i j) = sumTo g.length (fun i => 0 - 1 * (at0 r (w + i) * ent g i j)) := sumTo_congr fun i _ => by
    rw [at0_neg, Int.neg_mul, Int.one_mul, Int.zero_sub]
  rw [e4, sumTo_lin, sumTo_zero]
  omega
theorem numb_tg {w : Nat} {m : Mat} (hw : Wid w m) : ∀ r ∈ numb m, Tg m w [] r := by
  intro r hr j hj
  obtain ⟨i, hi, rfl⟩ := List.mem_map.mp hr
  have hi := List.mem_range.mp hi
  have hl := hw.get hi
  have e3 : at0 ([] : Row) j = 0 := at0_out (Nat.zero_le _)
  rw [e3, Int.sub_zero, at0_app, if_pos (by omega)]
  have e4 : sumTo m.length (fun k => at0 (m.getD i [] ++ unitR m.length i) (w + k) * ent m k j) = sumTo m.length (fun k => (if k = i then 1 else 0) * ent m k j) := sumTo_congr fun k hk => by
    rw [at0_app, if_neg (by omega)]
    unfold unitR
    rw [at0_map_range, if_pos (by omega)]
    have : w + k - (m.getD i []).length = k := by omega
    rw [this]
  rw [e4, sumTo_one hi]
  rfl
theorem stF_all {v : Nat} {m : Mat} {T : Row → Prop} (hw : Wid v m) (hT : ∀ r ∈ m, T r) (hl : ∀ r o k, r.length = v → o.length = v → T r → T o → T (less r k o)) (hn : ∀ r, r.length = v → T r → T (r.map fun x => -x)) (n : Nat) :
    Wid v (stF m n).1 ∧ Wid v (stF m n).2 ∧ (∀ r ∈ (stF m n).1, T r) ∧ ∀ r ∈ (stF m n).2, T r := by
  induction n with
  | zero => exact ⟨fun _ h => (by cases h), hw, fun _ h => (by cases h), hT⟩
  | succ n ih =>
    obtain ⟨h1, h2, h3, h4⟩ := ih
    rw [stF_succ]
    unfold stStep
    have ha := pull_all (p := n) h2 h4 hl hn
    cases e : pull (stF m n).2 n with
    | mk o l =>
      rw [e] at ha
      cases o with
      | none =>
        obtain ⟨a1, _⟩ := pull_no h2 e
        exact ⟨h1, by rw [a1]; exact h2, h3, ha.2⟩
      | some r =>
        obtain ⟨a1, a2, _⟩ := pull_some h2 e
        refine ⟨fun x hx => ?_, a2, fun x hx => ?_, ha.2⟩
        · rcases List.mem_append.mp hx with q | q
          · obtain ⟨y, hy, rfl⟩ := List.mem_map.mp q
            rw [lsd_length]; exact h1 y hy
          · rw [List.mem_singleton.mp q]; exact a1
        · rcases List.mem_append.mp hx with q | q
          · obtain ⟨y, hy, rfl⟩ := List.mem_map.mp q
            exact hl _ _ _ (h1 y hy) a1 (h3 y hy) (ha.1 r rfl)
          · rw [List.mem_singleton.mp q]; exact ha.1 r rfl
theorem redF_tg {g S : Mat} {v w : Nat} {base r : Row} (hS : Wid v S) (hT : ∀ x ∈ S, Tg g w [] x) (hr : r.length = v) (h : Tg g w base r) : ∀ n, n ≤ S.length → (redF S r n).length = v ∧ Tg g w base (redF S r n)
  | 0, _ => ⟨hr, h⟩
  | n + 1, hn => by
    obtain ⟨h1, h2⟩ := redF_tg hS hT hr h n (by omega)
    have := hS.get (i := n) (by omega)
    rw [redF_succ (by omega)]
    exact ⟨by unfold redStep; rw [lsd_length]; exact h1, h2.less (by omega) (hT _ (getD_mem (by omega)))⟩
/-- what numbered stairs leave of a row -/
def lft (g : Mat) (w : Nat) (r : Row) : Row := red (stairs (numb g) w) (r ++ List.replicate g.length 0)
def isz (r : Row) : Bool := r.all (· == 0)
theorem isz_iff {r : Row} : isz r = true ↔ ∀ i, at0 r i = 0 := by
  unfold isz
  rw [List.all_eq_true]
  constructor
  · intro h i
    by_cases hi : i < r.length
    · simpa using h _ (List.mem_of_getElem? (at0_get hi))
    · exact at0_out (by omega)
  · intro h x hx
    obtain ⟨i, hi, rfl⟩ := List.getElem_of_mem hx
    have := h i
    rw [at0_some (List.getElem?_eq_getElem hi)] at this
    simpa using this
theorem numb_leads {w : Nat} {g : Mat} (hw : Wid w g) : Wid (w + g.length) (stairs (numb g) w) ∧ ∀ i, i < (stairs (numb g) w).length → ∃ q, q < w ∧ leadAt ((stairs (numb g) w).getD i []) q := by
  obtain ⟨L, h⟩ := sts (numb_wid hw) w (by omega)
  refine ⟨h.h.wid, fun i hi => ?_⟩
  obtain ⟨q, _, h2, h3⟩ := h.h.lead hi
  exact ⟨q, h.l q (List.mem_of_getElem? h3), h2⟩
theorem lft_length {w : Nat} {g : Mat} {r : Row} (hw : Wid w g) (hr : r.length = w) : (lft g w r).length = w + g.length := by
  obtain ⟨h1, h2⟩ := numb_leads hw
  have := (red_tk (w := w) h1 h2 (r ++ List.replicate g.length 0) (by simp [hr]) _ (Nat.le_refl _)).1
  rw [redF_all] at this
  exact this
theorem lft_take {w : Nat} {g : Mat} {r : Row} (hw : Wid w g) (hr : r.length = w) : (lft g w r).take w = red (stairs g w) r := by
  obtain ⟨h1, h2⟩ := numb_leads hw
  have := (red_tk (w := w) h1 h2 (r ++ List.replicate g.length 0) (by simp [hr]) _ (Nat.le_refl _)).2
  rw [redF_all] at this
  unfold lft
  rw [this]
  have e1 : (r ++ List.replicate g.length 0).take w = r := by rw [List.take_append_of_le_length (by omega), List.take_of_length_le (by omega)]
  have e2 : tk w (stairs (numb g) w) = stairs g w := by
    have := congrArg Prod.fst (stF_tk (numb_wid hw) (show w ≤ w + g.length by omega) w (Nat.le_refl w))
    rw [numb_tk hw] at this
    exact this.symm
  rw [e1, e2, ← redF_all (stairs g w) r, ← e2, List.length_map]
/-- the amounts that are told -/
def parts (g : Mat) (w : Nat) (r : Row) : Row := ((lft g w r).drop w).map fun x => -1 * x
theorem parts_length {w : Nat} {g : Mat} {r : Row} (hw : Wid w g) (hr : r.length = w) : (parts g w r).length = g.length := by
  unfold parts
  rw [List.length_map, List.length_drop, lft_length hw hr]
  omega
theorem parts_mix {w : Nat} {g : Mat} {r : Row} (hw : Wid w g) (hr : r.length = w) (hz : isz (red (stairs g w) r) = true) : mixM (parts g w r) g w = r := by
  obtain ⟨h1, h2⟩ := numb_leads hw
  have hT := (stF_all (T := Tg g w []) (numb_wid hw) (numb_tg hw) (fun r o k a b c d => c.less (by omega) d) (fun r _ h => h.neg) w).2.2.1
  have ht : Tg g w r (r ++ List.replicate g.length 0) := fun j hj => by
    rw [at0_app, if_pos (by omega), Int.sub_self]
    have : sumTo g.length (fun i => at0 (r ++ List.replicate g.length 0) (w + i) * ent g i j) = sumTo g.length (fun _ => 0) := sumTo_congr fun i _ => by
      rw [at0_app, if_neg (by omega)]
      have : at0 (List.replicate g.length (0 : Int)) (w + i - r.length) = 0 := by
        unfold at0
        rw [List.getD_eq_getElem?_getD, List.getElem?_replicate]
        split <;> rfl
      rw [this, Int.zero_mul]
    rw [this, sumTo_zero]
  have h3 := (redF_tg h1 hT (by simp [hr]) ht _ (Nat.le_refl _)).2
  rw [redF_all] at h3
  have h4 := isz_iff.mp hz
  apply row_ext
  · simp [mixM, hr]
  · intro j
    unfold mixM
    rw [at0_map_range]
    split
    · rename_i hj
      have e1 := h3 j hj
      have e2 := h4 j
      rw [← lft_take hw hr, at0_take, if_pos hj] at e2
      have e3 : sumTo g.length (fun i => at0 (parts g w r) i * ent g i j) = sumTo g.length (fun i => 0 - 1 * (at0 (lft g w r) (w + i) * ent g i j)) := sumTo_congr fun i hi => by
        have : at0 (parts g w r) i = - at0 (lft g w r) (w + i) := by
          unfold parts at0
          rw [List.getD_eq_getElem?_getD, List.getElem?_map, List.getElem?_drop, List.getD_eq_getElem?_getD]
          cases (lft g w r)[w + i]? <;> simp
        rw [this, Int.neg_mul, Int.one_mul, Int.zero_sub]
      rw [e3, sumTo_lin, sumTo_zero]
      have e4 : at0 (red (stairs (numb g) w) (r ++ List.replicate g.length 0)) j = 0 := e2
      rw [e4] at e1
      show 0 - 1 * sumTo g.length (fun i => at0 (red (stairs (numb g) w) (r ++ List.replicate g.length 0)) (w + i) * ent g i j) = _
      omega
    · exact (at0_out (by omega)).symm
end G
end
section
set_option linter.all false
set_option maxRecDepth 10000
namespace G
/-! ### spans -/
def zr (w : Nat) : Row := List.replicate w 0
theorem at0_zr {w i : Nat} : at0 (zr w) i = 0 := by
  unfold at0 zr
  rw [List.getD_eq_getElem?_getD, List.getElem?_replicate]
  split <;> rfl
theorem zr_length {w : Nat} : (zr w).length = w := List.length_replicate
inductive Spn (w : Nat) (m : Mat) : Row → Prop where
  | zero : Spn w m (zr w)
  | step {v r : Row} (k : Int) : Spn w m v → r ∈ m → Spn w m (less v k r)
theorem Spn.len {w : Nat} {m : Mat} {v : Row} (h : Spn w m v) : v.length = w := by
  induction h with
  | zero => exact zr_length
  | step k _ _ ih => rw [less_length, ih]
theorem Spn.less {w : Nat} {m : Mat} {v u : Row} (hw : Wid w m) (hv : Spn w m v) (hu : Spn w m u) (k : Int) : Spn w m (less v k u) := by
  induction hu with
  | zero =>
    have e : G.less v k (zr w) = v := row_ext (less_length _ _ _) fun i => by rw [at0_less (by rw [zr_length, hv.len]), at0_zr]; simp
    rw [e]
    exact hv
  | @step u' r j h1 h2 ih =>
    have hr := hw r h2
    have hl := hv.len
    have hl' := h1.len
    have e : G.less v k (G.less u' j r) = G.less (G.less v k u') (-(k * j)) r := row_ext (by simp [less_length]) fun i => by
      rw [at0_less (by rw [less_length]; omega), at0_less (by omega), at0_less (by rw [less_length]; omega), at0_less (by omega), Int.mul_sub, Int.neg_mul, Int.mul_assoc]
      omega
    rw [e]
    exact ih.step _ h2
theorem Spn.mem {w : Nat} {m : Mat} {r : Row} (hw : Wid w m) (h : r ∈ m) : Spn w m r := by
  have e : G.less (zr w) (-1) r = r := row_ext (by rw [less_length, zr_length, hw r h]) fun i => by
    rw [at0_less (by rw [zr_length, hw r h]), at0_zr]
    omega
  rw [← e]
  exact Spn.zero.step _ h
def Sub (w : Nat) (A B : Mat) : Prop := ∀ r ∈ A, Spn w B r
theorem Spn.sub {w : Nat} {A B : Mat} {v : Row} (hB : Wid w B) (h : Sub w A B) (hv : Spn w A v) : Spn w B v := by
  induction hv with
  | zero => exact .zero
  | step k h1 h2 ih => exact ih.less hB (h _ h2) k
theorem Sub.trans {w : Nat} {A B C : Mat} (hC : Wid w C) (h1 : Sub w A B) (h2 : Sub w B C) : Sub w A C := fun r hr => (h1 r hr).sub hC h2
theorem Sub.of {w : Nat} {A B : Mat} (hB : Wid w B) (h : ∀ r ∈ A, r ∈ B) : Sub w A B := fun r hr => .mem hB (h r hr)
theorem Spn.neg {w : Nat} {m : Mat} {v : Row} (hw : Wid w m) (hv : Spn w m v) : Spn w m (v.map fun x => -x) := by
  have e : G.less (zr w) 1 v = v.map fun x => -x := row_ext (by rw [less_length, zr_length, List.length_map, hv.len]) fun i => by
    rw [at0_less (by rw [zr_length, hv.len]), at0_zr, at0_neg]
    omega
  rw [← e]
  exact Spn.zero.less hw hv 1
/-- what is so of zero and of the rows and stays with sums -/
theorem Spn.all {w : Nat} {m : Mat} {T : Row → Prop} {v : Row} (hv : Spn w m v) (hw : Wid w m) (h0 : T (zr w)) (hl : ∀ v r k, v.length = w → r ∈ m → T v → T (G.less v k r)) : T v := by
  induction hv with
  | zero => exact h0
  | step k h1 h2 ih => exact hl _ _ _ h1.len h2 ih
/-! ### stairs of one span are one -/
theorem Hs.tail {w q : Nat} {s : Row} {T : Mat} {L : List Nat} (h : Hs w (s :: T) (q :: L)) : Hs w T L where
  len := by have := h.len; simpa using this
  wid := fun r hr => h.wid r (.tail _ hr)
  up := fun i j a b hij h1 h2 => h.up (i + 1) (j + 1) a b (by omega) h1 h2
  lt := fun i q h1 => h.lt (i + 1) q h1
  zero := fun i q j h1 h2 => h.zero (i + 1) q j h1 h2
  pos := fun i q h1 => h.pos (i + 1) q h1
  red := fun i k q hik h1 => h.red (i + 1) (k + 1) q (by omega) h1
theorem Hs.above {w q : Nat} {s : Row} {T : Mat} {L : List Nat} (h : Hs w (s :: T) (q :: L)) : ∀ p ∈ L, q < p := fun p hp => by
  obtain ⟨i, hi, rfl⟩ := List.getElem_of_mem hp
  exact h.up 0 (i + 1) q L[i] (by omega) rfl (by simp)
/-- rows whose leads are all behind q show 0 till there -/
theorem span_zero {w q : Nat} {T : Mat} {L : List Nat} (h : Hs w T L) (hL : ∀ p ∈ L, q ≤ p) {v : Row} (hv : Spn w T v) : ∀ j, j < q → at0 v j = 0 := by
  refine hv.all (T := fun v => ∀ j, j < q → at0 v j = 0) h.wid (fun j _ => at0_zr) fun v r k hl hr ih j hj => ?_
  rw [at0_less (by rw [hl, h.wid r hr]), ih j hj]
  obtain ⟨i, hi, rfl⟩ := mem_getD hr
  have hi2 : i < L.length := by rw [← h.len]; exact hi
  have e : L[i]? = some L[i] := List.getElem?_eq_getElem hi2
  have := h.zero i L[i] j e (Nat.lt_of_lt_of_le hj (hL _ (List.getElem_mem hi2)))
  unfold ent at this
  rw [this]
  simp
theorem span_dec {w : Nat} {s : Row} {T : Mat} (hw : Wid w (s :: T)) {v : Row} (hv : Spn w (s :: T) v) : ∃ c, Spn w T (less v c s) := by
  have hs := hw s (.head _)
  induction hv with
  | zero =>
    refine ⟨0, ?_⟩
    rw [less_zero (by rw [zr_length, hs])]
    exact .zero
  | @step v r k h1 h2 ih =>
    obtain ⟨c, hc⟩ := ih
    have hl := h1.len
    rcases List.mem_cons.mp h2 with e | e
    · subst e
      refine ⟨c - k, ?_⟩
      have e : less (less v k r) (c - k) r = less v c r := row_ext (by simp [less_length]) fun i => by
        rw [at0_less (by rw [less_length]; omega), at0_less (by omega), at0_less (by omega), Int.sub_mul]
        omega
      rw [e]
      exact hc
    · refine ⟨c, ?_⟩
      have hr := hw r (.tail _ e)
      have e2 : less (less v k r) c s = less (less v c s) k r := row_ext (by simp [less_length]) fun i => by
        rw [at0_less (by rw [less_length]; omega), at0_less (by omega), at0_less (by rw [less_length]; omega), at0_less (by omega)]
        omega
      rw [e2]
      exact hc.step _ e
theorem span_cons {w : Nat} {s : Row} {T : Mat} {v : Row} (hv : Spn w T v) : Spn w (s :: T) v := by
  induction hv with
  | zero => exact .zero
  | step k _ h2 ih => exact ih.step k (.tail _ h2)
theorem span_small {w : Nat} : ∀ {T : Mat} {L : List Nat} {v : Row}, Hs w T L → Spn w T v → (∀ (i q : Nat), L[i]? = some q → (at0 v q).natAbs < (ent T i q).natAbs) → ∀ i, at0 v i = 0
  | [], L, v, h, hv, _ => fun i => by
    refine hv.all (T := fun v => at0 v i = 0) h.wid at0_zr fun v r k hl hr ih => ?_
    cases hr
  | t :: T, [], v, h, _, _ => by have := h.len; simp at this
  | t :: T, q :: L, v, h, hv, hs => by
    obtain ⟨c, hc⟩ := span_dec h.wid hv
    have ht := h.wid t (.head _)
    have e0 := span_zero h.tail (q := q + 1) (fun p hp => h.above p hp) hc q (by omega)
    rw [at0_less (by rw [hv.len, ht])] at e0
    have h0 := hs 0 q rfl
    have e1 : ent (t :: T) 0 q = at0 t q := rfl
    rw [e1] at h0
    have hc0 : c = 0 := by
      refine Decidable.byContradiction fun z => ?_
      have e2 : at0 v q = c * at0 t q := by omega
      rw [e2, Int.natAbs_mul] at h0
      have : 1 * (at0 t q).natAbs ≤ c.natAbs * (at0 t q).natAbs := Nat.mul_le_mul_right _ (by omega)
      omega
    rw [hc0, less_zero (by rw [hv.len, ht])] at hc
    exact span_small h.tail hc fun i p hp => hs (i + 1) p hp
theorem hs_unique {w : Nat} : ∀ {S S' : Mat} {L L' : List Nat}, Hs w S L → Hs w S' L' → (∀ v, Spn w S v → Spn w S' v) → (∀ v, Spn w S' v → Spn w S v) → S = S' ∧ L = L'
  | [], [], L, L', h, h', _, _ => by
    have h1 := h.len
    have h2 := h'.len
    have e1 : L = [] := List.eq_nil_of_length_eq_zero (by simpa using h1.symm)
    have e2 : L' = [] := List.eq_nil_of_length_eq_zero (by simpa using h2.symm)
    exact ⟨rfl, by rw [e1, e2]⟩
  | [], s' :: T', L, [], _, h', _, _ => by have := h'.len; simp at this
  | [], s' :: T', L, q' :: L', h, h', _, b => by
    have h1 := h'.pos 0 q' rfl
    have h2 := span_small h (b s' (.mem h'.wid (.head _))) (fun i q e => by have := h.len; rw [List.eq_nil_of_length_eq_zero (l := L) (by simpa using this.symm)] at e; simp at e) q'
    have e1 : ent (s' :: T') 0 q' = at0 s' q' := rfl
    omega
  | s :: T, [], [], L', h, _, _, _ => by have := h.len; simp at this
  | s :: T, [], q :: L, L', h, h', a, _ => by
    have h1 := h.pos 0 q rfl
    have h2 := span_small h' (a s (.mem h.wid (.head _))) (fun i q e => by have := h'.len; rw [List.eq_nil_of_length_eq_zero (l := L') (by simpa using this.symm)] at e; simp at e) q
    have e1 : ent (s :: T) 0 q = at0 s q := rfl
    omega
  | s :: T, s' :: T', [], _, h, _, _, _ => by have := h.len; simp at this
  | s :: T, s' :: T', _ :: _, [], _, h', _, _ => by have := h'.len; simp at this
  | s :: T, s' :: T', q :: L, q' :: L', h, h', a, b => by
    have ms : Spn w (s :: T) s := .mem h.wid (.head _)
    have ms' : Spn w (s' :: T') s' := .mem h'.wid (.head _)
    have p0 : 0 < at0 s q := h.pos 0 q rfl
    have p0' : 0 < at0 s' q' := h'.pos 0 q' rfl
    have ls := h.wid s (.head _)
    have ls' := h'.wid s' (.head _)
    have lo : ∀ p ∈ q :: L, q ≤ p := fun p hp => by
      rcases List.mem_cons.mp hp with e | e
      · omega
      · exact Nat.le_of_lt (h.above p e)
    have lo' : ∀ p ∈ q' :: L', q' ≤ p := fun p hp => by
      rcases List.mem_cons.mp hp with e | e
      · omega
      · exact Nat.le_of_lt (h'.above p e)
    have eq : q = q' := by
      rcases Nat.lt_trichotomy q q' with e | e | e
      · have := span_zero h' lo' (a s ms) q e
        omega
      · exact e
      · have := span_zero h lo (b s' ms') q' e
        omega
    subst eq
    have tz : ∀ v, Spn w T v → at0 v q = 0 := fun v hv => span_zero h.tail (q := q + 1) (fun p hp => h.above p hp) hv q (by omega)
    have tz' : ∀ v, Spn w T' v → at0 v q = 0 := fun v hv => span_zero h'.tail (q := q + 1) (fun p hp => h'.above p hp) hv q (by omega)
    have dT : ∀ v, Spn w (s :: T) v → at0 v q = 0 → Spn w T v := fun v hv e => by
      obtain ⟨c, hc⟩ := span_dec h.wid hv
      have e0 := tz _ hc
      rw [at0_less (by rw [hv.len, ls]), e] at e0
      have : c = 0 := by
        have e1 : c * at0 s q = 0 := by omega
        rcases Int.mul_eq_zero.mp e1 with z | z
        · exact z
        · omega
      rw [this, less_zero (by rw [hv.len, ls])] at hc
      exact hc
    have dT' : ∀ v, Spn w (s' :: T') v → at0 v q = 0 → Spn w T' v := fun v hv e => by
      obtain ⟨c, hc⟩ := span_dec h'.wid hv
      have e0 := tz' _ hc
      rw [at0_less (by rw [hv.len, ls']), e] at e0
      have : c = 0 := by
        have e1 : c * at0 s' q = 0 := by omega
        rcases Int.mul_eq_zero.mp e1 with z | z
        · exact z
        · omega
      rw [this, less_zero (by rw [hv.len, ls'])] at hc
      exact hc
    obtain ⟨e1, e2⟩ := hs_unique h.tail h'.tail (fun v hv => dT' v (a v (span_cons hv)) (tz v hv)) (fun v hv => dT v (b v (span_cons hv)) (tz' v hv))
    subst e1 e2
    -- the pivots are one
    have piv : at0 s q = at0 s' q := by
      obtain ⟨c, hc⟩ := span_dec h'.wid (a s ms)
      obtain ⟨d, hd⟩ := span_dec h.wid (b s' ms')
      have e1 := tz' _ hc
      have e2 := tz _ hd
      rw [at0_less (by rw [ls, ls'])] at e1 e2
      have e3 : at0 s q = c * at0 s' q := by omega
      have e4 : at0 s' q = d * at0 s q := by omega
      have c1 : 1 ≤ c := by
        refine Decidable.byContradiction fun z => ?_
        have : c * at0 s' q ≤ 0 := Int.mul_nonpos_of_nonpos_of_nonneg (by omega) (by omega)
        omega
      have d1 : 1 ≤ d := by
        refine Decidable.byContradiction fun z => ?_
        have : d * at0 s q ≤ 0 := Int.mul_nonpos_of_nonpos_of_nonneg (by omega) (by omega)
        omega
      have f1 : 1 * at0 s' q ≤ c * at0 s' q := Int.mul_le_mul_of_nonneg_right c1 (by omega)
      have f2 : 1 * at0 s q ≤ d * at0 s q := Int.mul_le_mul_of_nonneg_right d1 (by omega)
      omega
    have hu : Spn w T (less s 1 s') := dT _ (ms.less h.wid (b s' ms') 1) (by rw [at0_less (by rw [ls, ls'])]; omega)
    have hz := span_small h.tail hu fun i p hp => by
      have r1 := h.red 0 (i + 1) p (by omega) hp
      have r2 := h'.red 0 (i + 1) p (by omega) hp
      have e1 : ent (s :: T) 0 p = at0 s p := rfl
      have e2 : ent (s' :: T) 0 p = at0 s' p := rfl
      have e3 : ent (s :: T) (i + 1) p = ent T i p := rfl
      have e4 : ent (s' :: T) (i + 1) p = ent T i p := rfl
      rw [at0_less (by rw [ls, ls'])]
      omega
    have es : s = s' := row_ext (by rw [ls, ls']) fun i => by
      have := hz i
      rw [at0_less (by rw [ls, ls'])] at this
      omega
    exact ⟨by rw [es], rfl⟩
/-! ### stairs span what the rows span -/
theorem sub_rnd {w p b : Nat} {m : Mat} (hw : Wid w m) (hb : b < m.length) : Sub w (rnd m p b) m ∧ Sub w m (rnd m p b) := by
  have hR : ∀ i, i < m.length → rndR m p b i ∈ rnd m p b := fun i hi => List.mem_map.mpr ⟨i, List.mem_range.mpr hi, rfl⟩
  have hbb : m.getD b [] ∈ rnd m p b := by
    have := hR b hb
    unfold rndR at this
    rw [if_neg (by simp)] at this
    exact this
  constructor
  · intro r hr
    obtain ⟨i, hi, rfl⟩ := List.mem_map.mp hr
    have hi := List.mem_range.mp hi
    unfold rndR
    split
    · exact (Spn.mem hw (getD_mem hi)).less hw (.mem hw (getD_mem hb)) _
    · exact .mem hw (getD_mem hi)
  · intro r hr
    obtain ⟨i, hi, rfl⟩ := mem_getD hr
    have h1 := hR i hi
    unfold rndR at h1
    split at h1
    · have hw' : Wid w (rnd m p b) := rnd_wid hw
      have l1 := hw.get hi
      have l2 := hw.get hb
      have e : less (lsd p (m.getD b []) (m.getD i [])) (-((at0 (m.getD i []) p).fdiv (at0 (m.getD b []) p))) (m.getD b []) = m.getD i [] := row_ext (by rw [less_length, lsd_length]) fun j => by
        rw [at0_less (by rw [lsd_length]; omega), at0_lsd (by omega), Int.neg_mul]
        omega
      rw [← e]
      exact (Spn.mem hw' h1).less hw' (.mem hw' hbb) _
    · exact .mem (rnd_wid hw) h1
theorem erase_sub {m : Mat} {b : Nat} (hb : b < m.length) : ∀ r ∈ m, r = m.getD b [] ∨ r ∈ m.eraseIdx b := by
  intro r hr
  obtain ⟨i, hi, rfl⟩ := mem_getD hr
  by_cases e : i = b
  · exact .inl (by rw [e])
  · refine .inr (List.mem_eraseIdx_iff_getElem.mpr ⟨i, hi, e, ?_⟩)
    rw [List.getD_eq_getElem?_getD, List.getElem?_eq_getElem hi]
    rfl
theorem sub_pull {w p : Nat} {m : Mat} {r : Row} {m' : Mat} (hw : Wid w m) (h : pull m p = (some r, m')) : Sub w (r :: m') m ∧ Sub w m (r :: m') := by
  rcases pull_cases (w := w) (p := p) (P := fun m1 => Sub w m1 m ∧ Sub w m m1) (fun m1 b h1 h2 h3 _ => by
    obtain ⟨s1, s2⟩ := sub_rnd (p := p) h1 (lb_some h3).1
    exact ⟨s1.trans hw h2.1, h2.2.trans (rnd_wid h1) s2⟩) _ m (Nat.lt_succ_self _) hw ⟨.of hw fun _ h => h, .of hw fun _ h => h⟩ with ⟨q, _⟩ | ⟨m1, b, h1, h2, ⟨t1, t2⟩, h3, h4, q⟩
  · rw [q] at h
    cases h
  · rw [q] at h
    injection h with ha hb
    injection ha with ha
    subst ha hb
    have hb := (lb_some h3).1
    obtain ⟨s1, s2⟩ := sub_rnd (p := p) h1 hb
    have wr := rnd_wid (p := p) (b := b) h1
    have wl : (norm (m1.getD b []) p).length = w := by rw [norm_length]; exact h1.get hb
    have wn : Wid w (norm (m1.getD b []) p :: (rnd m1 p b).eraseIdx b) := fun r hr => by
      rcases List.mem_cons.mp hr with e | e
      · rw [e]; exact wl
      · exact wr r (erase_mem e)
    have eb : (rnd m1 p b).getD b [] = m1.getD b [] := by
      unfold rnd
      rw [getD_map_range, if_pos hb]
      unfold rndR
      rw [if_neg (by simp)]
    have nn : ∀ {A : Mat}, Wid w A → Spn w A (m1.getD b []) → Spn w A (norm (m1.getD b []) p) := fun hA h => by
      unfold norm
      split
      · exact h
      · exact h.neg hA
    constructor
    · refine Sub.trans hw (B := rnd m1 p b) (fun r hr => ?_) (s1.trans hw t1)
      rcases List.mem_cons.mp hr with e | e
      · rw [e]
        refine nn wr (.mem wr ?_)
        rw [← eb]
        exact getD_mem (by rw [rnd_length]; exact hb)
      · exact .mem wr (erase_mem e)
    · refine Sub.trans wn (B := rnd m1 p b) (t2.trans wr s2) fun r hr => ?_
      rcases erase_sub (b := b) (by rw [rnd_length]; exact hb) r hr with e | e
      · rw [e, eb]
        have h5 : Spn w (norm (m1.getD b []) p :: (rnd m1 p b).eraseIdx b) (norm (m1.getD b []) p) := .mem wn (.head _)
        by_cases hp : 0 < at0 (m1.getD b []) p
        · unfold norm at h5
          rw [if_pos hp] at h5
          unfold norm
          rw [if_pos hp]
          exact h5
        · have h6 := h5.neg wn
          have e2 : (norm (m1.getD b []) p).map (fun x => -x) = m1.getD b [] := by
            unfold norm
            rw [if_neg hp, List.map_map]
            conv => rhs; rw [← List.map_id (m1.getD b [])]
            exact List.map_congr_left fun x _ => by simp
          rw [e2] at h6
          exact h6
      · exact .mem wn (.tail _ e)
theorem stF_sub {w : Nat} {m : Mat} (hw : Wid w m) : ∀ n, Wid w ((stF m n).1 ++ (stF m n).2) ∧ Sub w ((stF m n).1 ++ (stF m n).2) m ∧ Sub w m ((stF m n).1 ++ (stF m n).2)
  | 0 => ⟨hw, .of hw fun _ h => h, .of hw fun _ h => h⟩
  | n + 1 => by
    obtain ⟨h0, h1, h2⟩ := stF_sub hw n
    rw [stF_succ]
    unfold stStep
    have w1 : Wid w (stF m n).1 := fun r hr => h0 r (List.mem_append_left _ hr)
    have w2 : Wid w (stF m n).2 := fun r hr => h0 r (List.mem_append_right _ hr)
    cases e : pull (stF m n).2 n with
    | mk o l =>
      cases o with
      | none =>
        obtain ⟨a1, _⟩ := pull_no w2 e
        subst a1
        exact ⟨h0, h1, h2⟩
      | some r =>
        obtain ⟨a1, a2, _⟩ := pull_some w2 e
        obtain ⟨b1, b2⟩ := sub_pull w2 e
        have wn : Wid w ((stF m n).1.map (lsd n r) ++ [r] ++ l) := fun x hx => by
          rcases List.mem_append.mp hx with q | q
          · rcases List.mem_append.mp q with q | q
            · obtain ⟨y, hy, rfl⟩ := List.mem_map.mp q
              rw [lsd_length]; exact w1 y hy
            · rw [List.mem_singleton.mp q]; exact a1
          · exact a2 x q
        have hr : Spn w ((stF m n).1.map (lsd n r) ++ [r] ++ l) r := .mem wn (by simp)
        refine ⟨wn, Sub.trans hw (B := (stF m n).1 ++ (stF m n).2) (fun x hx => ?_) h1, Sub.trans wn h2 fun x hx => ?_⟩
        · have hr0 : Spn w ((stF m n).1 ++ (stF m n).2) r := (b1 r (.head _)).sub h0 (.of h0 fun y hy => List.mem_append_right _ hy)
          rcases List.mem_append.mp hx with q | q
          · rcases List.mem_append.mp q with q | q
            · obtain ⟨y, hy, rfl⟩ := List.mem_map.mp q
              exact (Spn.mem h0 (List.mem_append_left _ hy)).less h0 hr0 _
            · rw [List.mem_singleton.mp q]; exact hr0
          · exact (b1 x (.tail _ q)).sub h0 (.of h0 fun y hy => List.mem_append_right _ hy)
        · rcases List.mem_append.mp hx with q | q
          · have l1 := w1 x q
            have e2 : less (lsd n r x) (-((at0 x n).fdiv (at0 r n))) r = x := row_ext (by rw [less_length, lsd_length]) fun j => by
              rw [at0_less (by rw [lsd_length]; omega), at0_lsd (by omega), Int.neg_mul]
              omega
            rw [← e2]
            exact (Spn.mem wn (List.mem_append_left _ (List.mem_append_left _ (List.mem_map.mpr ⟨x, q, rfl⟩)))).less wn hr _
          · refine (b2 x q).sub wn fun y hy => ?_
            rcases List.mem_cons.mp hy with e3 | e3
            · rw [e3]; exact hr
            · exact .mem wn (List.mem_append_right _ e3)
theorem stairs_span {w : Nat} {m : Mat} (hw : Wid w m) (v : Row) : Spn w (stairs m w) v ↔ Spn w m v := by
  obtain ⟨L, h⟩ := sts hw w (Nat.le_refl w)
  obtain ⟨h0, h1, h2⟩ := stF_sub hw w
  have hS : Wid w (stairs m w) := h.h.wid
  constructor
  · intro hv
    exact hv.sub hw (fun r hr => h1 r (List.mem_append_left _ hr))
  · intro hv
    refine (hv.sub h0 h2).sub hS fun r hr => ?_
    rcases List.mem_append.mp hr with q | q
    · exact .mem hS q
    · have e : r = zr w := row_ext (by rw [zr_length, h.wid r q]) fun j => by
        rw [at0_zr]
        obtain ⟨i, _, rfl⟩ := mem_getD q
        by_cases hj : j < w
        · exact h.z i j hj
        · exact at0_out (by rw [h.wid _ q]; omega)
      rw [e]
      exact .zero
/-- rows that span the same have the same stairs -/
theorem stairs_unique {w : Nat} {A B : Mat} (hA : Wid w A) (hB : Wid w B) (h1 : Sub w A B) (h2 : Sub w B A) : stairs A w = stairs B w := by
  obtain ⟨L, h⟩ := stairs_hs hA
  obtain ⟨L', h'⟩ := stairs_hs hB
  refine (hs_unique h h' (fun v hv => ?_) fun v hv => ?_).1
  · exact (stairs_span hB v).mpr (((stairs_span hA v).mp hv).sub hB h1)
  · exact (stairs_span hA v).mpr (((stairs_span hB v).mp hv).sub hA h2)
end G
end
section
set_option linter.all false
set_option maxRecDepth 10000
namespace G
/-! ### the law's own pull -/
def bz (m : Mat) (p : Nat) : List Nat := (List.range m.length).filter fun i => decide (ent m i p ≠ 0)
def betB (m : Mat) (p : Nat) (b i : Nat) : Nat := if (ent m i p).natAbs < (ent m b p).natAbs then i else b
def betO (m : Mat) (p : Nat) (b : Option Nat) (i : Nat) : Option Nat := match b with
  | none => some i
  | some j => some (betB m p j i)
theorem mem_bz {m : Mat} {p i : Nat} : i ∈ bz m p ↔ i < m.length ∧ ent m i p ≠ 0 := by
  unfold bz
  rw [List.mem_filter, List.mem_range]
  simp
theorem lbF_bz (m : Mat) (p : Nat) : ∀ n, lbF m p n = ((List.range n).filter fun i => decide (ent m i p ≠ 0)).foldl (betO m p) none
  | 0 => rfl
  | n + 1 => by
    rw [lbF_succ, lbF_bz m p n, List.range_succ, List.filter_append, List.foldl_append]
    unfold lbStep
    by_cases h : ent m n p = 0
    · rw [if_neg (fun z => z.1 h)]
      simp [h]
    · generalize ((List.range n).filter fun i => decide (ent m i p ≠ 0)).foldl (betO m p) none = b
      have e : [n].filter (fun i => decide (ent m i p ≠ 0)) = [n] := by simp [h]
      rw [e]
      show _ = betO m p b n
      cases b with
      | none =>
        rw [if_pos ⟨h, fun j q => by cases q⟩]
        rfl
      | some j =>
        unfold betO betB
        by_cases q : (ent m n p).natAbs < (ent m j p).natAbs
        · rw [if_pos ⟨h, fun k e => by cases e; exact q⟩]
          dsimp only
          rw [if_pos q]
        · rw [if_neg (fun z => q (z.2 j rfl))]
          dsimp only
          rw [if_neg q]
theorem foldO (m : Mat) (p : Nat) : ∀ (l : List Nat) (a : Nat), l.foldl (betO m p) (some a) = some (l.foldl (betB m p) a)
  | [], _ => rfl
  | x :: l, a => foldO m p l (betB m p a x)
theorem betB_self (m : Mat) (p a : Nat) : betB m p a a = a := by
  unfold betB
  rw [if_neg (Nat.lt_irrefl _)]
/-- the best of the busy ones is the least -/
theorem best_lb {m : Mat} {p a : Nat} {t : List Nat} (h : bz m p = a :: t) : lb m p = some ((bz m p).foldl (betB m p) a) := by
  unfold lb
  rw [lbF_bz]
  show (bz m p).foldl (betO m p) none = _
  rw [h]
  show t.foldl (betO m p) (some a) = some (t.foldl (betB m p) (betB m p a a))
  rw [betB_self, foldO]
theorem bz_nil {m : Mat} {p : Nat} (h : bz m p = []) : lb m p = none := by
  unfold lb
  rw [lbF_bz]
  show (bz m p).foldl (betO m p) none = _
  rw [h]
  rfl
theorem bet_bz {m : Mat} {p a : Nat} {t : List Nat} (h : bz m p = a :: t) : ∀ k, ((bz m p).take k).foldl (betB m p) a ∈ bz m p
  | 0 => by rw [h]; exact .head _
  | k + 1 => by
    have ih := bet_bz h k
    rw [List.take_succ]
    cases e : (bz m p)[k]? with
    | none => simpa [e] using ih
    | some x =>
      rw [List.foldl_append]
      show betB m p _ x ∈ _
      unfold betB
      split
      · exact List.mem_of_getElem? e
      · exact ih
/-- rows told by l are lessened -/
def rndL (m : Mat) (p b : Nat) (l : List Nat) : Mat := (List.range m.length).map fun i => if i ∈ l then rndR m p b i else m.getD i []
theorem rndL_nil (m : Mat) (p b : Nat) : rndL m p b [] = m := by
  unfold rndL
  simp only [List.not_mem_nil, if_false]
  exact list_eq_range m
theorem rndL_length (m : Mat) (p b : Nat) (l : List Nat) : (rndL m p b l).length = m.length := by simp [rndL]
theorem rndL_get {m : Mat} {p b i : Nat} {l : List Nat} (h : i < m.length) : (rndL m p b l)[i]? = some (if i ∈ l then rndR m p b i else m.getD i []) := by
  unfold rndL
  rw [List.getElem?_map, range_get, if_pos h]
  rfl
theorem rndL_getD {m : Mat} {p b i : Nat} {l : List Nat} (h : i < m.length) : (rndL m p b l).getD i [] = if i ∈ l then rndR m p b i else m.getD i [] := by
  rw [List.getD_eq_getElem?_getD, rndL_get h]
  rfl
theorem rndL_snoc {m : Mat} {p b x : Nat} {l : List Nat} (h : x < m.length) : rndL m p b (l ++ [x]) = (rndL m p b l).set x (rndR m p b x) := by
  apply List.ext_getElem?
  intro i
  by_cases hi : i < m.length
  · rw [rndL_get hi]
    by_cases e : i = x
    · subst e
      rw [if_pos (by simp), List.getElem?_set_self (by rw [rndL_length]; exact hi)]
    · rw [List.getElem?_set_ne (fun z => e z.symm), rndL_get hi]
      by_cases q : i ∈ l
      · rw [if_pos (by simp [q]), if_pos q]
      · rw [if_neg (by simp [q, e]), if_neg q]
  · rw [List.getElem?_eq_none (by rw [rndL_length]; omega), List.getElem?_eq_none (by rw [List.length_set, rndL_length]; omega)]
theorem rndR_b (m : Mat) (p b : Nat) : rndR m p b b = m.getD b [] := by
  unfold rndR
  rw [if_neg (by simp)]
theorem rndL_skip {m : Mat} {p b x : Nat} {l : List Nat} (e : rndR m p b x = m.getD x []) : rndL m p b (l ++ [x]) = rndL m p b l := by
  unfold rndL
  apply List.map_congr_left
  intro i hi
  by_cases q : i ∈ l
  · rw [if_pos (by simp [q]), if_pos q]
  · by_cases z : i = x
    · subst z
      rw [if_pos (by simp), if_neg q, e]
    · rw [if_neg (by simp [q, z]), if_neg q]
theorem rndL_bz (m : Mat) (p b : Nat) : rndL m p b (bz m p) = rnd m p b := by
  unfold rndL rnd
  apply List.map_congr_left
  intro i hi
  have hi := List.mem_range.mp hi
  split
  · rfl
  · rename_i h
    unfold rndR
    rw [if_neg]
    rintro ⟨_, z⟩
    exact h (mem_bz.mpr ⟨hi, z⟩)
theorem clean_bz {m : Mat} {p b : Nat} (h : bz m p = [b]) : Clean m p b := fun i hi hn => by
  refine Decidable.byContradiction fun z => ?_
  have := mem_bz.mpr ⟨hi, z⟩
  rw [h] at this
  exact hn (List.mem_singleton.mp this)
theorem pull_one {m : Mat} {p b : Nat} (h : bz m p = [b]) : pull m p = (some (norm (m.getD b []) p), m.eraseIdx b) := by
  have e : lb m p = some b := by
    rw [best_lb h, h]
    show some (betB m p b b) = _
    rw [betB_self]
  have hc := rnd_alone (clean_bz h)
  have := pull_clean e (by rw [hc]; exact clean_bz h)
  rw [hc] at this
  exact this
/-- a round more changes nothing of what is pulled -/
theorem pull_round {m : Mat} {p b w : Nat} (hw : Wid w m) (e : lb m p = some b) : pull m p = pull (rnd m p b) p := by
  by_cases hc : Clean (rnd m p b) p b
  · obtain ⟨hb, hz, _⟩ := lb_some e
    have ebb : ent (rnd m p b) b p = ent m b p := (rnd_col hw e b).2.2
    have e2 : lb (rnd m p b) p = some b := by
      cases q : lb (rnd m p b) p with
      | none => exact absurd (lb_none q b) (by rw [ebb]; exact hz)
      | some b' =>
        obtain ⟨h1, h2, _⟩ := lb_some q
        by_cases z : b' = b
        · rw [z]
        · exact absurd (hc b' h1 z) h2
    have e3 := rnd_alone hc
    have gb : (rnd m p b).getD b [] = m.getD b [] := by
      unfold rnd
      rw [getD_map_range, if_pos hb, rndR_b]
    rw [pull_clean e hc, pull_clean e2 (by rw [e3]; exact hc), e3, gb]
  · exact pull_step hw e hc
theorem bz_clean {m : Mat} {p b : Nat} (h : Clean m p b) (hb : b < m.length) (hz : ent m b p ≠ 0) : bz m p = [b] := by
  have h1 : b ∈ bz m p := mem_bz.mpr ⟨hb, hz⟩
  have h2 : ∀ x ∈ bz m p, x = b := fun x hx => by
    obtain ⟨a, c⟩ := mem_bz.mp hx
    by_cases q : x = b
    · exact q
    · exact absurd (h x a q) c
  have h3 : (bz m p).Nodup := List.Pairwise.filter _ List.nodup_range
  cases e : bz m p with
  | nil => rw [e] at h1; cases h1
  | cons x t =>
    rw [e] at h2 h3
    have hx := h2 x (.head _)
    cases t with
    | nil => rw [hx]
    | cons y t =>
      have hy := h2 y (.tail _ (.head _))
      have := (List.nodup_cons.mp h3).1
      exact absurd (by rw [hx, hy]; exact .head _) this
def mu (m : Mat) (p : Nat) : Nat := 2 * meas m p + (if (bz m p).length ≤ 1 then 0 else 1)
theorem mu_rnd {m : Mat} {p b w : Nat} (hw : Wid w m) (e : lb m p = some b) (h : ¬ (bz m p).length ≤ 1) : mu (rnd m p b) p < mu m p := by
  unfold mu
  rw [if_neg h]
  by_cases hc : Clean (rnd m p b) p b
  · obtain ⟨hb, hz, _⟩ := lb_some e
    have ebb : ent (rnd m p b) b p = ent m b p := (rnd_col hw e b).2.2
    have h1 := bz_clean hc (by rw [rnd_length]; exact hb) (by rw [ebb]; exact hz)
    have h2 : meas (rnd m p b) p ≤ (ent (rnd m p b) b p).natAbs := meas_le (by rw [ebb]; exact hz)
    rw [ebb, ← meas_eq e] at h2
    rw [h1, if_pos (by simp)]
    omega
  · have := meas_rnd hw e hc
    split <;> omega
/-- what the law's loop keeps -/
def PL (M : Nat) (m : Mat) (p : Nat) : Prop := PB M m p ∨ (bz m p).length = 1
theorem PL.step {M : Nat} {m : Mat} {p b w : Nat} (h : PL M m p) (hM : 0 < M) (hw : Wid w m) (e : lb m p = some b) (hn : (bz m p).length ≠ 1) : Le (3 * M ^ 4) m ∧ PL M (rnd m p b) p := by
  rcases h with h | h
  · obtain ⟨a1, _, a3⟩ := h.step hM hw e
    refine ⟨a1, ?_⟩
    by_cases hc : Clean (rnd m p b) p b
    · obtain ⟨hb, hz, _⟩ := lb_some e
      have ebb : ent (rnd m p b) b p = ent m b p := (rnd_col hw e b).2.2
      exact .inr (by rw [bz_clean hc (by rw [rnd_length]; exact hb) (by rw [ebb]; exact hz)]; rfl)
    · exact .inl (a3 hc)
  · exact absurd h hn
theorem filter_head {n q : Nat} {f : Nat → Bool} (h1 : q < n) (h2 : f q = true) (h3 : ∀ j, j < q → f j = false) : ((List.range n).filter f)[0]? = some q := by
  have := find_range n f q h1 h2 h3
  rw [← List.head?_filter, List.head?_eq_getElem?] at this
  exact this
theorem sumTo_list (n : Nat) (f : Nat → Int) : ((List.range n).map f).sum = sumTo n f := by
  induction n with
  | zero => rfl
  | succ n ih =>
    rw [List.range_succ, List.map_append, List.sum_append, ih]
    show _ + (f n + 0) = sumTo n f + f n
    omega
/-- the first n amounts times rows -/
def mixF (a : Row) (g : Mat) (w n : Nat) : Row := (List.range w).map fun j => sumTo n fun i => at0 a i * ent g i j
theorem mixF_zero (a : Row) (g : Mat) (w : Nat) : mixF a g w 0 = zr w := row_ext (by simp [mixF, zr]) fun i => by
  unfold mixF
  rw [at0_map_range, at0_zr]
  split <;> rfl
theorem mixF_length (a : Row) (g : Mat) (w n : Nat) : (mixF a g w n).length = w := by simp [mixF]
theorem mixF_succ (a : Row) (g : Mat) (w n : Nat) : mixF a g w (n + 1) = (List.range w).map fun j => at0 (mixF a g w n) j + at0 a n * ent g n j := by
  unfold mixF
  apply List.map_congr_left
  intro j hj
  rw [at0_map_range, if_pos (List.mem_range.mp hj)]
  rfl
theorem mixF_all (a : Row) (g : Mat) (w : Nat) : mixF a g w g.length = mixM a g w := rfl
end G
end
section
set_option linter.all false
set_option maxRecDepth 10000
namespace G
/-! ### lists of one span -/
structure Mt (w : Nat) (m' m : Mat) : Prop where
  wid : Wid w m'
  a : Sub w m' m
  b : Sub w m m'
theorem Mt.perm {w : Nat} {m' m : Mat} (hw : Wid w m) (h : m'.Perm m) : Mt w m' m := by
  have hw' : Wid w m' := fun r hr => hw r (h.mem_iff.mp hr)
  exact ⟨hw', .of hw fun r hr => h.mem_iff.mp hr, .of hw' fun r hr => h.mem_iff.mpr hr⟩
theorem Mt.trans {w : Nat} {A B C : Mat} (h : Mt w A B) (k : Mt w B C) (hC : Wid w C) : Mt w A C := ⟨h.wid, h.a.trans hC k.a, k.b.trans h.wid h.b⟩
theorem Mt.add {w : Nat} {m : Mat} {r : Row} (hw : Wid w m) (h : Spn w m r) : Mt w (m ++ [r]) m := by
  have hw' : Wid w (m ++ [r]) := fun s hs => by
    rcases List.mem_append.mp hs with hs | hs
    · exact hw s hs
    · rw [List.mem_singleton.mp hs]; exact h.len
  refine ⟨hw', fun s hs => ?_, .of hw' fun s hs => List.mem_append_left _ hs⟩
  rcases List.mem_append.mp hs with hs | hs
  · exact .mem hw hs
  · rw [List.mem_singleton.mp hs]; exact h
theorem neg_neg_row (r : Row) : (r.map fun x => -x).map (fun x => -x) = r := by
  rw [List.map_map]
  exact (List.map_congr_left fun x _ => by simp).trans (List.map_id r)
theorem Mt.neg {w i : Nat} {m : Mat} (hw : Wid w m) (hi : i < m.length) : Mt w (m.set i ((m.getD i []).map fun x => -x)) m := by
  have hm : m.getD i [] ∈ m := getD_mem hi
  have hw' : Wid w (m.set i ((m.getD i []).map fun x => -x)) := fun s hs => by
    rcases List.mem_or_eq_of_mem_set hs with hs | hs
    · exact hw s hs
    · rw [hs, List.length_map]; exact hw _ hm
  have hin : ((m.getD i []).map fun x => -x) ∈ m.set i ((m.getD i []).map fun x => -x) := List.mem_of_getElem? (List.getElem?_set_self hi)
  refine ⟨hw', fun s hs => ?_, fun s hs => ?_⟩
  · rcases List.mem_or_eq_of_mem_set hs with hs | hs
    · exact .mem hw hs
    · rw [hs]; exact (Spn.mem hw hm).neg hw
  · obtain ⟨j, hj, e⟩ := List.getElem_of_mem hs
    by_cases z : i = j
    · subst z
      have e2 : m.getD i [] = s := by rw [List.getD_eq_getElem?_getD, List.getElem?_eq_getElem hi, e]; rfl
      have := (Spn.mem hw' hin).neg hw'
      rw [neg_neg_row] at this
      rw [e2] at this ⊢
      exact this
    · refine .mem hw' (List.mem_of_getElem? (i := j) ?_)
      rw [List.getElem?_set_ne z, List.getElem?_eq_getElem hj, e]
end G
end
section
set_option linter.all false
set_option maxRecDepth 10000
namespace G
/-! ### rows with what weights show at them -/
def dot (u r : Row) : Int := sumTo r.length fun i => at0 u i * at0 r i
theorem dot_zero {u : Row} {w : Nat} : dot u (zr w) = 0 := by
  unfold dot
  rw [zr_length, sumTo_congr (g := fun _ => 0) fun i _ => by rw [at0_zr, Int.mul_zero]]
  exact sumTo_zero
theorem dot_less {u v r : Row} {k : Int} (h : v.length = r.length) : dot u (less v k r) = dot u v - k * dot u r := by
  unfold dot
  rw [less_length, h, ← sumTo_lin]
  exact sumTo_congr fun i _ => by
    rw [at0_less h, Int.mul_sub, ← Int.mul_assoc, ← Int.mul_assoc, Int.mul_comm (at0 u i) k]
def show1 (W : Mat) (r : Row) : Row := (W.map fun u => dot u r) ++ r
def shows (A W : Mat) : Mat := A.map (show1 W)
theorem show1_length {W : Mat} {r : Row} : (show1 W r).length = W.length + r.length := by simp [show1]
theorem at0_map {W : Mat} {f : Row → Int} {i : Nat} (h : i < W.length) : at0 (W.map f) i = f (W.getD i []) := by
  unfold at0
  rw [List.getD_eq_getElem?_getD, List.getD_eq_getElem?_getD, List.getElem?_map, List.getElem?_eq_getElem h]
  rfl
theorem at0_show {W : Mat} {r : Row} {i : Nat} : at0 (show1 W r) i = if i < W.length then dot (W.getD i []) r else at0 r (i - W.length) := by
  unfold show1
  rw [at0_app, List.length_map]
  split
  · rename_i h
    rw [at0_map h]
  · rfl
theorem show1_zero {W : Mat} {w : Nat} : show1 W (zr w) = zr (W.length + w) := row_ext (by rw [show1_length, zr_length, zr_length]) fun i => by
  rw [at0_show, at0_zr, at0_zr]
  split
  · exact dot_zero
  · rfl
theorem show1_less {W : Mat} {v r : Row} {k : Int} (h : v.length = r.length) : show1 W (less v k r) = less (show1 W v) k (show1 W r) := row_ext (by rw [less_length, show1_length, show1_length, less_length]) fun i => by
  rw [at0_less (by rw [show1_length, show1_length, h]), at0_show, at0_show, at0_show]
  split
  · exact dot_less h
  · exact at0_less h
theorem drop_show {W : Mat} {r : Row} : (show1 W r).drop W.length = r := by
  unfold show1
  rw [List.drop_append_of_le_length (by simp), List.drop_of_length_le (by simp)]
  rfl
theorem shows_wid {w : Nat} {A W : Mat} (h : Wid w A) : Wid (W.length + w) (shows A W) := fun r hr => by
  obtain ⟨s, hs, rfl⟩ := List.mem_map.mp hr
  rw [show1_length, h s hs]
theorem span_show {w : Nat} {A W : Mat} (h : Wid w A) {u : Row} (hu : Spn w A u) : Spn (W.length + w) (shows A W) (show1 W u) := by
  induction hu with
  | zero => rw [show1_zero]; exact .zero
  | step k h1 h2 ih =>
    rw [show1_less (by rw [h1.len, h _ h2])]
    exact ih.step k (List.mem_map.mpr ⟨_, h2, rfl⟩)
theorem span_shown {w : Nat} {A W : Mat} (h : Wid w A) {x : Row} (hx : Spn (W.length + w) (shows A W) x) : ∃ u, Spn w A u ∧ x = show1 W u := by
  induction hx with
  | zero => exact ⟨zr w, .zero, show1_zero.symm⟩
  | step k h1 h2 ih =>
    obtain ⟨u, hu, rfl⟩ := ih
    obtain ⟨s, hs, rfl⟩ := List.mem_map.mp h2
    exact ⟨less u k s, hu.step k hs, (show1_less (by rw [hu.len, h s hs])).symm⟩
/-! ### what is left spans what begins with zeros -/
theorem span_split {w : Nat} {S R : Mat} (hS : Wid w S) (hR : Wid w R) {v : Row} (hv : Spn w (S ++ R) v) : ∃ s, Spn w S s ∧ Spn w R (less v 1 s) := by
  induction hv with
  | zero => exact ⟨zr w, .zero, by rw [show less (zr w) 1 (zr w) = zr w from row_ext (less_length _ _ _) fun i => by rw [at0_less rfl, at0_zr]; rfl]; exact .zero⟩
  | @step v r k h1 h2 ih =>
    obtain ⟨s, hs, hd⟩ := ih
    have hl := h1.len
    have hls := hs.len
    rcases List.mem_append.mp h2 with z | z
    · have hr := hS r z
      refine ⟨less s k r, hs.step k z, ?_⟩
      have e : less (less v k r) 1 (less s k r) = less v 1 s := row_ext (by simp [less_length]) fun i => by
        rw [at0_less (by rw [less_length, less_length]; omega), at0_less (by omega), at0_less (by omega), at0_less (by omega)]
        omega
      rw [e]
      exact hd
    · have hr := hR r z
      refine ⟨s, hs, ?_⟩
      have e : less (less v k r) 1 s = less (less v 1 s) k r := row_ext (by simp [less_length]) fun i => by
        rw [at0_less (by rw [less_length]; omega), at0_less (by omega), at0_less (by rw [less_length]; omega), at0_less (by omega)]
        omega
      rw [e]
      exact hd.step k z
theorem span_lead0 {w n : Nat} {R : Mat} (hR : Wid w R) (hz : ∀ i j, j < n → ent R i j = 0) {v : Row} (hv : Spn w R v) : ∀ j, j < n → at0 v j = 0 := by
  refine hv.all (T := fun v => ∀ j, j < n → at0 v j = 0) hR (fun j _ => at0_zr) fun v r k hl hr ih j hj => ?_
  rw [at0_less (by rw [hl, hR r hr]), ih j hj]
  obtain ⟨i, hi, rfl⟩ := mem_getD hr
  have := hz i j hj
  unfold ent at this
  rw [this]
  simp
theorem rest_span {w n : Nat} {m : Mat} (hw : Wid w m) (hn : n ≤ w) (v : Row) : Spn w (stF m n).2 v ↔ Spn w m v ∧ ∀ j, j < n → at0 v j = 0 := by
  obtain ⟨L, h⟩ := sts hw n hn
  obtain ⟨h0, h1, h2⟩ := stF_sub hw n
  constructor
  · intro hv
    exact ⟨hv.sub hw fun r hr => h1 r (List.mem_append_right _ hr), span_lead0 h.wid h.z hv⟩
  · rintro ⟨hv, hz⟩
    obtain ⟨s, hs, hd⟩ := span_split h.h.wid h.wid (hv.sub h0 h2)
    have hdz := span_lead0 h.wid h.z hd
    have ls := hs.len
    have lv := hv.len
    have s0 : ∀ i, at0 s i = 0 := span_small h.h hs fun i q e => by
      have hq := h.l q (List.mem_of_getElem? e)
      have := hdz q hq
      rw [at0_less (by omega), hz q hq] at this
      have e0 : at0 s q = 0 := by omega
      have := h.h.pos i q e
      rw [e0]
      omega
    have e : less v 1 s = v := row_ext (less_length _ _ _) fun i => by
      rw [at0_less (by omega), s0 i]
      simp
    rw [e] at hd
    exact hd
/-! ### cut by weights -/
def drp (n : Nat) (A : Mat) : Mat := A.map (List.drop n)
theorem at0_drop {r : Row} {n i : Nat} : at0 (r.drop n) i = at0 r (n + i) := by
  unfold at0
  rw [List.getD_eq_getElem?_getD, List.getElem?_drop, List.getD_eq_getElem?_getD]
theorem drp_wid {n w : Nat} {A : Mat} (h : Wid (n + w) A) : Wid w (drp n A) := fun r hr => by
  obtain ⟨s, hs, rfl⟩ := List.mem_map.mp hr
  rw [List.length_drop, h s hs]
  omega
theorem less_drop {v r : Row} {k : Int} {n : Nat} (h : v.length = r.length) : (less v k r).drop n = less (v.drop n) k (r.drop n) := row_ext (by rw [less_length, List.length_drop, List.length_drop, less_length]) fun i => by
  rw [at0_less (by rw [List.length_drop, List.length_drop, h]), at0_drop, at0_drop, at0_drop, at0_less h]
theorem span_drop {n w : Nat} {R : Mat} (h : Wid (n + w) R) {x : Row} (hx : Spn (n + w) R x) : Spn w (drp n R) (x.drop n) := by
  induction hx with
  | zero =>
    have e : (zr (n + w)).drop n = zr w := row_ext (by rw [List.length_drop, zr_length, zr_length]; omega) fun i => by rw [at0_drop, at0_zr, at0_zr]
    rw [e]
    exact .zero
  | step k h1 h2 ih =>
    rw [less_drop (by rw [h1.len, h _ h2])]
    exact ih.step k (List.mem_map.mpr ⟨_, h2, rfl⟩)
/-- the rows that are left, without what the weights show -/
def cutR (A W : Mat) : Mat := drp W.length (stF (shows A W) W.length).2
def cutM (A W : Mat) (w : Nat) : Mat := stairs (cutR A W) w
theorem cutR_wid {w : Nat} {A W : Mat} (h : Wid w A) : Wid w (cutR A W) := by
  obtain ⟨L, q⟩ := sts (shows_wid (W := W) h) W.length (Nat.le_add_right _ _)
  exact drp_wid q.wid
theorem cut_span {w : Nat} {A W : Mat} (h : Wid w A) (v : Row) : Spn w (cutR A W) v ↔ Spn w A v ∧ ∀ i, i < W.length → dot (W.getD i []) v = 0 := by
  have hs := shows_wid (W := W) h
  obtain ⟨L, q⟩ := sts hs W.length (Nat.le_add_right _ _)
  have key := rest_span hs (Nat.le_add_right W.length w)
  constructor
  · intro hv
    induction hv with
    | zero => exact ⟨.zero, fun i _ => dot_zero⟩
    | @step v r k h1 h2 ih =>
      obtain ⟨x, hx, rfl⟩ := List.mem_map.mp h2
      obtain ⟨y1, y2⟩ := (key x).mp (.mem q.wid hx)
      obtain ⟨u, hu, rfl⟩ := span_shown h y1
      rw [drop_show]
      refine ⟨ih.1.less h hu k, fun i hi => ?_⟩
      have := y2 i hi
      rw [at0_show, if_pos hi] at this
      rw [dot_less (by rw [h1.len, hu.len]), ih.2 i hi, this]
      simp
  · rintro ⟨h1, h2⟩
    have := span_drop q.wid ((key (show1 W v)).mpr ⟨span_show h h1, fun j hj => by rw [at0_show, if_pos hj]; exact h2 j hj⟩)
    rw [drop_show] at this
    exact this
/-- what is cut hangs on the span alone -/
theorem cut_unique {w : Nat} {A B W : Mat} (hA : Wid w A) (hB : Wid w B) (h : ∀ v, Spn w A v ↔ Spn w B v) : cutM A W w = cutM B W w := by
  have e : ∀ v, Spn w (cutR A W) v ↔ Spn w (cutR B W) v := fun v => by rw [cut_span hA, cut_span hB, h v]
  exact stairs_unique (cutR_wid hA) (cutR_wid hB) (fun r hr => (e r).mp (.mem (cutR_wid hA) hr)) fun r hr => (e r).mpr (.mem (cutR_wid hB) hr)
end G
end
section
set_option linter.all false
set_option maxRecDepth 10000
namespace G
/-! ### what stairs leave -/
theorem red_span {w : Nat} {S : Mat} {x : Row} (hS : Wid w S) (hx : x.length = w) : ∀ n, n ≤ S.length → (redF S x n).length = w ∧ Spn w S (less x 1 (redF S x n))
  | 0, _ => by
    refine ⟨hx, ?_⟩
    have e : less x 1 (redF S x 0) = zr w := row_ext (by rw [less_length, zr_length, hx]) fun i => by
      rw [redF_zero, at0_less rfl, at0_zr]
      omega
    rw [e]
    exact .zero
  | n + 1, h => by
    obtain ⟨h1, h2⟩ := red_span hS hx n (by omega)
    have hs := hS.get (i := n) (by omega)
    rw [redF_succ (by omega)]
    unfold redStep lsd
    refine ⟨by rw [less_length]; exact h1, ?_⟩
    generalize (at0 (redF S x n) _).fdiv _ = k
    have e : less x 1 (less (redF S x n) k (S.getD n [])) = less (less x 1 (redF S x n)) (-k) (S.getD n []) := row_ext (by simp [less_length]) fun i => by
      rw [at0_less (by rw [less_length]; omega), at0_less (by omega), at0_less (by rw [less_length]; omega), at0_less (by omega), Int.neg_mul]
      omega
    rw [e]
    exact h2.step _ (getD_mem (by omega))
/-- at the leads little is left -/
theorem red_small {w : Nat} {S : Mat} {L : List Nat} {x : Row} (h : Hs w S L) (hx : x.length = w) : ∀ n, n ≤ S.length → ∀ i q, i < n → L[i]? = some q → 0 ≤ at0 (redF S x n) q ∧ at0 (redF S x n) q < ent S i q
  | 0, _, i, q, hi, _ => by omega
  | n + 1, hn, i, q, hi, e => by
    have h1 := (red_span h.wid hx n (by omega)).1
    have hs := h.wid.get (i := n) (by omega)
    obtain ⟨p, hp, hl, hp2⟩ := h.lead (i := n) (by omega)
    have pn := h.pos n p hp2
    rw [redF_succ (by omega)]
    unfold redStep
    rw [leadPl_eq hl]
    by_cases z : i = n
    · subst z
      rw [hp2] at e
      cases e
      exact lsd_rem (by omega) pn
    · have ih := red_small h hx n (by omega) i q (by omega) e
      have qp : q < p := h.up i n q p (by omega) e hp2
      rw [at0_lsd (by omega)]
      have z0 := h.zero n p q hp2 qp
      unfold ent at z0
      rw [z0]
      simpa using ih
/-! ### a row that shows what is wanted -/
def leftOf (A W : Mat) (w : Nat) (y : Row) : Row := red (stF (shows A W) W.length).1 (y ++ zr w)
theorem isz_take {r : Row} {n : Nat} (h : n ≤ r.length) : isz (r.take n) = true ↔ ∀ i, i < n → at0 r i = 0 := by
  rw [isz_iff]
  constructor
  · intro q i hi
    have := q i
    unfold at0 at this ⊢
    rw [List.getD_eq_getElem?_getD, List.getElem?_take, if_pos hi] at this
    rw [List.getD_eq_getElem?_getD]
    exact this
  · intro q i
    unfold at0
    rw [List.getD_eq_getElem?_getD, List.getElem?_take]
    split
    · rename_i hi
      have := q i hi
      unfold at0 at this
      rw [List.getD_eq_getElem?_getD] at this
      exact this
    · rfl
theorem left_facts {w : Nat} {A W : Mat} {y : Row} (hA : Wid w A) (hy : y.length = W.length) : (leftOf A W w y).length = W.length + w ∧ ∃ u, Spn w A u ∧ less (y ++ zr w) 1 (leftOf A W w y) = show1 W u := by
  have hs := shows_wid (W := W) hA
  obtain ⟨L, q⟩ := sts hs W.length (Nat.le_add_right _ _)
  obtain ⟨h0, h1, h2⟩ := stF_sub hs W.length
  have hx : (y ++ zr w).length = W.length + w := by rw [List.length_append, zr_length, hy]
  obtain ⟨a1, a2⟩ := red_span q.h.wid hx _ (Nat.le_refl _)
  rw [redF_all] at a1 a2
  refine ⟨a1, ?_⟩
  obtain ⟨u, hu, e⟩ := span_shown hA (a2.sub hs fun r hr => h1 r (List.mem_append_left _ hr))
  exact ⟨u, hu, e⟩
theorem left_zero {w : Nat} {A W : Mat} {y : Row} (hA : Wid w A) (hy : y.length = W.length) : isz ((leftOf A W w y).take W.length) = true ↔ ∃ u, Spn w A u ∧ ∀ i, i < W.length → dot (W.getD i []) u = at0 y i := by
  have hs := shows_wid (W := W) hA
  obtain ⟨ll, u, hu, e⟩ := left_facts hA hy
  have hx : (y ++ zr w).length = W.length + w := by rw [List.length_append, zr_length, hy]
  rw [isz_take (by omega)]
  have at_e : ∀ i, i < W.length → at0 y i - at0 (leftOf A W w y) i = dot (W.getD i []) u := fun i hi => by
    have := congrArg (fun r => at0 r i) e
    rw [at0_less (by omega), at0_show, if_pos hi, at0_app, if_pos (by omega)] at this
    omega
  constructor
  · intro z
    exact ⟨u, hu, fun i hi => by rw [← at_e i hi, z i hi]; simp⟩
  · rintro ⟨v, hv, hd⟩
    -- the difference lies within the leads' small numbers
    obtain ⟨L, q⟩ := sts hs W.length (Nat.le_add_right _ _)
    obtain ⟨h0, h1, h2⟩ := stF_sub hs W.length
    obtain ⟨s, ss, sr⟩ := span_split q.h.wid q.wid ((span_show (W := W) hA hv).sub h0 h2)
    have srz := span_lead0 q.wid q.z sr
    obtain ⟨_, a2⟩ := red_span q.h.wid hx _ (Nat.le_refl _)
    rw [redF_all] at a2
    have a2 : Spn (W.length + w) (stF (shows A W) W.length).1 (less (y ++ zr w) 1 (leftOf A W w y)) := a2
    have ls := ss.len
    have lv := hv.len
    have lsv : (show1 W v).length = W.length + w := by rw [show1_length, lv]
    have val : ∀ i, i < W.length → at0 (less s 1 (less (y ++ zr w) 1 (leftOf A W w y))) i = at0 (leftOf A W w y) i := fun i hi => by
      have e1 := srz i hi
      rw [at0_less (by omega), at0_show, if_pos hi, hd i hi] at e1
      rw [at0_less (by rw [less_length]; omega), at0_less (by omega), at0_app, if_pos (by omega)]
      omega
    have sm := span_small q.h (ss.less q.h.wid a2 1) fun i p hp => by
      have hpn := q.l p (List.mem_of_getElem? hp)
      have hi : i < (stF (shows A W) W.length).1.length := by rw [q.h.len]; exact (List.getElem?_eq_some_iff.mp hp).1
      have := red_small q.h hx _ (Nat.le_refl _) i p hi hp
      rw [redF_all] at this
      have this : 0 ≤ at0 (leftOf A W w y) p ∧ at0 (leftOf A W w y) p < ent (stF (shows A W) W.length).1 i p := this
      rw [val p hpn]
      omega
    intro i hi
    rw [← val i hi]
    exact sm i
/-- the row told -/
def toldOf (A W : Mat) (w : Nat) (y : Row) : Row := ((leftOf A W w y).drop W.length).map fun x => -1 * x
theorem told_ok {w : Nat} {A W : Mat} {y : Row} (hA : Wid w A) (hy : y.length = W.length) (hz : isz ((leftOf A W w y).take W.length) = true) : Spn w A (toldOf A W w y) ∧ ∀ i, i < W.length → dot (W.getD i []) (toldOf A W w y) = at0 y i := by
  obtain ⟨ll, u, hu, e⟩ := left_facts hA hy
  have hx : (y ++ zr w).length = W.length + w := by rw [List.length_append, zr_length, hy]
  have hz' := (isz_take (by omega)).mp hz
  have lu := hu.len
  have eu : toldOf A W w y = u := row_ext (by unfold toldOf; rw [List.length_map, List.length_drop, ll, lu]; omega) fun i => by
    have e1 : at0 (toldOf A W w y) i = -1 * at0 (leftOf A W w y) (W.length + i) := by
      unfold toldOf
      rw [← at0_drop]
      generalize (leftOf A W w y).drop W.length = r
      by_cases hi : i < r.length
      · unfold at0
        rw [List.getD_eq_getElem?_getD, List.getElem?_map, List.getD_eq_getElem?_getD, List.getElem?_eq_getElem hi]
        rfl
      · rw [at0_out (by rw [List.length_map]; omega), at0_out (by omega)]
        rfl
    have := congrArg (fun r => at0 r (W.length + i)) e
    rw [at0_less (by omega), at0_show, if_neg (by omega), at0_app, if_neg (by omega), at0_zr] at this
    rw [e1]
    have e2 : W.length + i - W.length = i := by omega
    rw [e2] at this
    omega
  rw [eu]
  refine ⟨hu, fun i hi => ?_⟩
  have := congrArg (fun r => at0 r i) e
  rw [at0_less (by omega), at0_show, if_pos hi, at0_app, if_pos (by omega), hz' i hi] at this
  omega
end G
end
section
set_option linter.all false
set_option maxRecDepth 10000
namespace G
/-! ### greatest common divisors -/
def comN (u : Row) (A : Mat) : Nat := A.foldl (fun g r => Nat.gcd g (dot u r).natAbs) 0
theorem fold_dvd (u : Row) (d : Nat) : ∀ (A : Mat) (g : Nat), d ∣ A.foldl (fun g r => Nat.gcd g (dot u r).natAbs) g ↔ d ∣ g ∧ ∀ r ∈ A, (d : Int) ∣ dot u r
  | [], g => by simp
  | r :: A, g => by
    show d ∣ A.foldl _ (Nat.gcd g (dot u r).natAbs) ↔ _
    rw [fold_dvd u d A, Nat.dvd_gcd_iff, ← Int.ofNat_dvd_left]
    constructor
    · rintro ⟨⟨a, b⟩, c⟩
      refine ⟨a, fun s hs => ?_⟩
      rcases List.mem_cons.mp hs with rfl | hs
      · exact b
      · exact c s hs
    · rintro ⟨a, b⟩
      exact ⟨⟨a, b r (.head _)⟩, fun s hs => b s (.tail _ hs)⟩
theorem com_dvd {u : Row} {A : Mat} {d : Nat} : d ∣ comN u A ↔ ∀ r ∈ A, (d : Int) ∣ dot u r := by
  unfold comN
  rw [fold_dvd]
  exact ⟨fun h => h.2, fun h => ⟨Nat.dvd_zero d, h⟩⟩
theorem span_dvd {w : Nat} {u : Row} {A : Mat} {d : Nat} (hA : Wid w A) (h : ∀ r ∈ A, (d : Int) ∣ dot u r) {v : Row} (hv : Spn w A v) : (d : Int) ∣ dot u v := by
  induction hv with
  | zero => rw [dot_zero]; exact Int.dvd_zero _
  | @step v r k h1 h2 ih =>
    rw [dot_less (by rw [h1.len, hA r h2])]
    exact Int.dvd_sub ih (Int.dvd_trans (h r h2) (Int.dvd_mul_left _ _))
theorem com_unique {w : Nat} {u : Row} {A B : Mat} (hA : Wid w A) (hB : Wid w B) (h : ∀ v, Spn w A v ↔ Spn w B v) : comN u A = comN u B := by
  refine Nat.dvd_antisymm (com_dvd.mpr fun r hr => ?_) (com_dvd.mpr fun r hr => ?_)
  · exact span_dvd hA (com_dvd.mp (Nat.dvd_refl _)) ((h r).mpr (.mem hB hr))
  · exact span_dvd hB (com_dvd.mp (Nat.dvd_refl _)) ((h r).mp (.mem hA hr))
theorem gcd_fmod (a b : Int) : Nat.gcd b.natAbs (a.fmod b).natAbs = Nat.gcd a.natAbs b.natAbs := by
  have e := Int.mul_fdiv_add_fmod a b
  refine Nat.dvd_antisymm (Nat.dvd_gcd_iff.mpr ⟨?_, Nat.gcd_dvd_left _ _⟩) (Nat.dvd_gcd_iff.mpr ⟨Nat.gcd_dvd_right _ _, ?_⟩)
  · rw [← Int.ofNat_dvd_left]
    have h : ((Nat.gcd b.natAbs (a.fmod b).natAbs : Nat) : Int) ∣ b * a.fdiv b + a.fmod b := Int.dvd_add (Int.dvd_trans (Int.ofNat_dvd_left.mpr (Nat.gcd_dvd_left _ _)) (Int.dvd_mul_right _ _)) (Int.ofNat_dvd_left.mpr (Nat.gcd_dvd_right _ _))
    rw [e] at h
    exact h
  · rw [← Int.ofNat_dvd_left]
    have e2 : a.fmod b = a - b * a.fdiv b := by omega
    rw [e2]
    exact Int.dvd_sub (Int.ofNat_dvd_left.mpr (Nat.gcd_dvd_left _ _)) (Int.dvd_trans (Int.ofNat_dvd_left.mpr (Nat.gcd_dvd_right _ _)) (Int.dvd_mul_right _ _))
/-! ### rows in stairs that need not be lessened -/
structure Eh (w : Nat) (S : Mat) (L : List Nat) : Prop where
  len : S.length = L.length
  wid : Wid w S
  up : ∀ (i j a b : Nat), i < j → L[i]? = some a → L[j]? = some b → a < b
  zero : ∀ (i q j : Nat), L[i]? = some q → j < q → ent S i j = 0
  pos : ∀ (i q : Nat), L[i]? = some q → 0 < ent S i q
theorem Hs.eh {w : Nat} {S : Mat} {L : List Nat} (h : Hs w S L) : Eh w S L := ⟨h.len, h.wid, h.up, h.zero, h.pos⟩
theorem Eh.tail {w q : Nat} {s : Row} {T : Mat} {L : List Nat} (h : Eh w (s :: T) (q :: L)) : Eh w T L where
  len := by have := h.len; simpa using this
  wid := fun r hr => h.wid r (.tail _ hr)
  up := fun i j a b hij ha hb => h.up (i + 1) (j + 1) a b (by omega) ha hb
  zero := fun i q j e hj => h.zero (i + 1) q j e hj
  pos := fun i q e => h.pos (i + 1) q e
theorem Eh.above {w q : Nat} {s : Row} {T : Mat} {L : List Nat} (h : Eh w (s :: T) (q :: L)) : ∀ p ∈ L, q < p := fun p hp => by
  obtain ⟨i, hi, e⟩ := List.getElem_of_mem hp
  exact h.up 0 (i + 1) q p (by omega) rfl (by show L[i]? = some p; rw [List.getElem?_eq_getElem hi, e])
theorem eh_zero {w q : Nat} {T : Mat} {L : List Nat} (h : Eh w T L) (hL : ∀ p ∈ L, q ≤ p) {v : Row} (hv : Spn w T v) : ∀ j, j < q → at0 v j = 0 :=
  span_lead0 h.wid (fun i j hj => by
    by_cases hi : i < T.length
    · have hi2 : i < L.length := by rw [← h.len]; exact hi
      exact h.zero i L[i] j (List.getElem?_eq_getElem hi2) (Nat.lt_of_lt_of_le hj (hL _ (List.getElem_mem hi2)))
    · exact ent_out (by omega)) hv
theorem eh_nil {w : Nat} {v : Row} (hv : Spn w [] v) (i : Nat) : at0 v i = 0 := by
  refine hv.all (T := fun v => at0 v i = 0) (fun r hr => by cases hr) at0_zr fun v r k hl hr ih => by cases hr
theorem eh_leads {w : Nat} : ∀ {S S' : Mat} {L L' : List Nat}, Eh w S L → Eh w S' L' → (∀ v, Spn w S v ↔ Spn w S' v) → L = L' ∧ ∀ i q, L[i]? = some q → ent S i q = ent S' i q
  | [], S', L, L', h, h', k => by
    have e1 : L = [] := List.eq_nil_of_length_eq_zero (by have := h.len; simpa using this.symm)
    subst e1
    match S', L', h' with
    | [], L', h' =>
      have e2 : L' = [] := List.eq_nil_of_length_eq_zero (by have := h'.len; simpa using this.symm)
      subst e2
      exact ⟨rfl, fun i q e => by simp at e⟩
    | s' :: T', [], h' => have := h'.len; simp at this
    | s' :: T', q' :: L', h' =>
      have h1 : 0 < at0 s' q' := h'.pos 0 q' rfl
      have h2 := eh_nil ((k s').mpr (.mem h'.wid (.head _))) q'
      omega
  | s :: T, S', [], L', h, _, _ => by have := h.len; simp at this
  | s :: T, [], q :: L, L', h, h', k => by
    have h1 : 0 < at0 s q := h.pos 0 q rfl
    have h2 := eh_nil ((k s).mp (.mem h.wid (.head _))) q
    omega
  | s :: T, s' :: T', q :: L, [], _, h', _ => by have := h'.len; simp at this
  | s :: T, s' :: T', q :: L, q' :: L', h, h', k => by
    have ms : Spn w (s :: T) s := .mem h.wid (.head _)
    have ms' : Spn w (s' :: T') s' := .mem h'.wid (.head _)
    have p0 : 0 < at0 s q := h.pos 0 q rfl
    have p0' : 0 < at0 s' q' := h'.pos 0 q' rfl
    have ls := h.wid s (.head _)
    have ls' := h'.wid s' (.head _)
    have lo : ∀ p ∈ q :: L, q ≤ p := fun p hp => by
      rcases List.mem_cons.mp hp with e | e
      · omega
      · exact Nat.le_of_lt (h.above p e)
    have lo' : ∀ p ∈ q' :: L', q' ≤ p := fun p hp => by
      rcases List.mem_cons.mp hp with e | e
      · omega
      · exact Nat.le_of_lt (h'.above p e)
    have eq : q = q' := by
      rcases Nat.lt_trichotomy q q' with e | e | e
      · have := eh_zero h' lo' ((k s).mp ms) q e
        omega
      · exact e
      · have := eh_zero h lo ((k s').mpr ms') q' e
        omega
    subst eq
    have tz : ∀ v, Spn w T v → at0 v q = 0 := fun v hv => eh_zero h.tail (q := q + 1) (fun p hp => h.above p hp) hv q (by omega)
    have tz' : ∀ v, Spn w T' v → at0 v q = 0 := fun v hv => eh_zero h'.tail (q := q + 1) (fun p hp => h'.above p hp) hv q (by omega)
    have cut : ∀ {s : Row} {T : Mat}, Wid w (s :: T) → s.length = w → 0 < at0 s q → (∀ v, Spn w T v → at0 v q = 0) → ∀ v, Spn w (s :: T) v → at0 v q = 0 → Spn w T v := fun {s T} hw ls p0 tz v hv e => by
      obtain ⟨c, hc⟩ := span_dec hw hv
      have e0 := tz _ hc
      rw [at0_less (by rw [hv.len, ls]), e] at e0
      have : c = 0 := by
        have e1 : c * at0 s q = 0 := by omega
        rcases Int.mul_eq_zero.mp e1 with z | z
        · exact z
        · omega
      rw [this, less_zero (by rw [hv.len, ls])] at hc
      exact hc
    obtain ⟨e1, e2⟩ := eh_leads h.tail h'.tail fun v => ⟨fun hv => cut h'.wid ls' p0' tz' v ((k v).mp (span_cons hv)) (tz v hv), fun hv => cut h.wid ls p0 tz v ((k v).mpr (span_cons hv)) (tz' v hv)⟩
    subst e1
    have piv : at0 s q = at0 s' q := by
      obtain ⟨c, hc⟩ := span_dec h'.wid ((k s).mp ms)
      obtain ⟨d, hd⟩ := span_dec h.wid ((k s').mpr ms')
      have e1 := tz' _ hc
      have e2 := tz _ hd
      rw [at0_less (by rw [ls, ls'])] at e1 e2
      have e3 : at0 s q = c * at0 s' q := by omega
      have e4 : at0 s' q = d * at0 s q := by omega
      have c1 : 1 ≤ c := by
        refine Decidable.byContradiction fun z => ?_
        have : c * at0 s' q ≤ 0 := Int.mul_nonpos_of_nonpos_of_nonneg (by omega) (by omega)
        omega
      have d1 : 1 ≤ d := by
        refine Decidable.byContradiction fun z => ?_
        have : d * at0 s q ≤ 0 := Int.mul_nonpos_of_nonpos_of_nonneg (by omega) (by omega)
        omega
      have f1 : 1 * at0 s' q ≤ c * at0 s' q := Int.mul_le_mul_of_nonneg_right c1 (by omega)
      have f2 : 1 * at0 s q ≤ d * at0 s q := Int.mul_le_mul_of_nonneg_right d1 (by omega)
      omega
    refine ⟨rfl, fun i p e => ?_⟩
    cases i with
    | zero => cases e; exact piv
    | succ i => exact e2 i p e
end G
end
section
set_option linter.all false
set_option maxRecDepth 10000
namespace G
/-! ### amounts of stairs, classes -/
def coorF (S : Mat) (x : Row) (i : Nat) : Int := (at0 (redF S x i) (leadPl (S.getD i []))).fdiv (at0 (S.getD i []) (leadPl (S.getD i [])))
def coor (S : Mat) (x : Row) : Row := (List.range S.length).map (coorF S x)
theorem coor_at {S : Mat} {x : Row} {i : Nat} (h : i < S.length) : at0 (coor S x) i = coorF S x i := by
  unfold coor
  rw [at0_map_range, if_pos h]
theorem coor_mix {w : Nat} {S : Mat} {x : Row} (hS : Wid w S) (hx : x.length = w) : ∀ n, n ≤ S.length → ∀ j, at0 x j - at0 (redF S x n) j = sumTo n fun i => at0 (coor S x) i * ent S i j
  | 0, _, j => by
    rw [redF_zero]
    show at0 x j - at0 x j = 0
    omega
  | n + 1, h, j => by
    have ih := coor_mix hS hx n (by omega) j
    have h1 := (red_span hS hx n (by omega)).1
    have hs := hS.get (i := n) (by omega)
    show _ = sumTo n _ + at0 (coor S x) n * ent S n j
    rw [← ih, coor_at (by omega), redF_succ (by omega)]
    unfold redStep
    rw [at0_lsd (by omega)]
    show at0 x j - (at0 (redF S x n) j - coorF S x n * ent S n j) = _
    omega
theorem red_in {w : Nat} {S : Mat} {L : List Nat} {x : Row} (h : Hs w S L) (hx : Spn w S x) (j : Nat) : at0 (red S x) j = 0 := by
  obtain ⟨h1, h2⟩ := red_span h.wid hx.len S.length (Nat.le_refl _)
  rw [redF_all] at h1 h2
  have lx := hx.len
  have e : less x 1 (less x 1 (red S x)) = red S x := row_ext (by rw [less_length]; omega) fun i => by
    rw [at0_less (by rw [less_length]), at0_less (by omega)]
    omega
  have h3 := hx.less h.wid h2 1
  rw [e] at h3
  refine span_small h h3 (fun i q hq => ?_) j
  have hi : i < S.length := by rw [h.len]; exact (List.getElem?_eq_some_iff.mp hq).1
  have := red_small h lx _ (Nat.le_refl _) i q hi hq
  rw [redF_all] at this
  omega
theorem mix_at {c : Row} {Y : Mat} {w j : Nat} : at0 (mixM c Y w) j = if j < w then sumTo Y.length fun i => at0 c i * ent Y i j else 0 := by
  unfold mixM
  rw [at0_map_range]
theorem mix_length {c : Row} {Y : Mat} {w : Nat} : (mixM c Y w).length = w := by simp [mixM]
theorem coor_ok {w : Nat} {S : Mat} {L : List Nat} {x : Row} (h : Hs w S L) (hx : Spn w S x) : mixM (coor S x) S w = x := row_ext (by rw [mix_length, hx.len]) fun j => by
  rw [mix_at]
  split
  · have := coor_mix h.wid hx.len S.length (Nat.le_refl _) j
    rw [redF_all, red_in h hx j] at this
    omega
  · rw [at0_out (by rw [hx.len]; omega)]
theorem mix_zero {Y : Mat} {w r : Nat} : mixM (zr r) Y w = zr w := row_ext (by rw [mix_length, zr_length]) fun j => by
  rw [mix_at, at0_zr]
  split
  · rw [sumTo_congr (g := fun _ => 0) fun i _ => by rw [at0_zr, Int.zero_mul], sumTo_zero]
  · rfl
theorem mix_less {Y : Mat} {w : Nat} {c d : Row} {k : Int} (h : c.length = d.length) : mixM (less c k d) Y w = less (mixM c Y w) k (mixM d Y w) := row_ext (by rw [less_length, mix_length, mix_length]) fun j => by
  rw [at0_less (by rw [mix_length, mix_length]), mix_at, mix_at, mix_at]
  split
  · rw [← sumTo_lin]
    exact sumTo_congr fun i _ => by rw [at0_less h, Int.sub_mul, Int.mul_assoc]
  · simp
theorem span_mix {w r : Nat} {Y A : Mat} (hA : Wid r A) {c : Row} (hc : Spn r A c) : Spn w (A.map fun a => mixM a Y w) (mixM c Y w) := by
  induction hc with
  | zero => rw [mix_zero]; exact .zero
  | step k h1 h2 ih =>
    rw [mix_less (by rw [h1.len, hA _ h2])]
    exact ih.step k (List.mem_map.mpr ⟨_, h2, rfl⟩)
theorem span_mixed {w r : Nat} {Y A : Mat} (hA : Wid r A) {v : Row} (hv : Spn w (A.map fun a => mixM a Y w) v) : ∃ c, Spn r A c ∧ v = mixM c Y w := by
  induction hv with
  | zero => exact ⟨zr r, .zero, mix_zero.symm⟩
  | step k h1 h2 ih =>
    obtain ⟨c, hc, rfl⟩ := ih
    obtain ⟨a, ha, rfl⟩ := List.mem_map.mp h2
    exact ⟨less c k a, hc.step k ha, (mix_less (by rw [hc.len, hA a ha])).symm⟩
theorem sumTo_single {n p : Nat} {f : Nat → Int} (hp : p < n) (h : ∀ i, i < n → i ≠ p → f i = 0) : sumTo n f = f p := by
  rw [sumTo_congr (g := fun i => (if i = p then 1 else 0) * f i) fun i hi => by
    by_cases e : i = p
    · rw [if_pos e, Int.one_mul]
    · rw [if_neg e, h i hi e, Int.zero_mul]]
  exact sumTo_one hp
section
variable {w : Nat} {Y T : Mat} {LY LT : List Nat}
theorem ent_mix {i j : Nat} (hi : i < T.length) (hj : j < w) : ent (T.map fun a => mixM a Y w) i j = sumTo Y.length fun k => ent T i k * ent Y k j := by
  rw [ent_map hi, mix_at, if_pos hj]
  rfl
theorem eh_mix (hY : Hs w Y LY) (hT : Hs Y.length T LT) : Eh w (T.map fun a => mixM a Y w) (LT.map fun k => LY.getD k 0) ∧ ∀ (i k q : Nat), LT[i]? = some k → LY[k]? = some q → ent (T.map fun a => mixM a Y w) i q = ent T i k * ent Y k q := by
  have get : ∀ {i q}, (LT.map fun k => LY.getD k 0)[i]? = some q → ∃ k, LT[i]? = some k ∧ LY[k]? = some q := fun {i q} h => by
    rw [List.getElem?_map] at h
    cases e : LT[i]? with
    | none => rw [e] at h; cases h
    | some k =>
      rw [e] at h
      have hk := hT.lt i k e
      rw [hY.len] at hk
      injection h with h
      refine ⟨k, e, ?_⟩
      dsimp only at h
      rw [List.getD_eq_getElem?_getD, List.getElem?_eq_getElem hk] at h
      rw [List.getElem?_eq_getElem hk]
      exact congrArg some h
  have below : ∀ {i k q j m : Nat}, LT[i]? = some k → LY[k]? = some q → j ≤ q → m < Y.length → (m ≠ k ∨ j < q) → ent T i m * ent Y m j = 0 := fun {i k q j m} e1 e2 hj hm hd => by
    by_cases z : m < k
    · rw [hT.zero i k m e1 z, Int.zero_mul]
    · have hm2 : m < LY.length := by rw [← hY.len]; exact hm
      have e3 : LY[m]? = some LY[m] := List.getElem?_eq_getElem hm2
      have : j < LY[m] := by
        by_cases y : m = k
        · subst y
          rw [e2] at e3
          cases e3
          rcases hd with hd | hd
          · exact absurd rfl hd
          · exact hd
        · have := hY.up k m q LY[m] (by omega) e2 e3
          omega
      rw [hY.zero m _ j e3 this, Int.mul_zero]
  have val : ∀ (i k q : Nat), LT[i]? = some k → LY[k]? = some q → ent (T.map fun a => mixM a Y w) i q = ent T i k * ent Y k q := fun i k q e1 e2 => by
    have hi : i < T.length := by rw [hT.len]; exact (List.getElem?_eq_some_iff.mp e1).1
    have hk := hT.lt i k e1
    rw [ent_mix hi (hY.lt k q e2), sumTo_single hk fun m hm hd => below e1 e2 (Nat.le_refl _) hm (.inl hd)]
  refine ⟨⟨by simp [hT.len], fun r hr => ?_, fun i j a b hij ha hb => ?_, fun i q j e hj => ?_, fun i q e => ?_⟩, val⟩
  · obtain ⟨c, _, rfl⟩ := List.mem_map.mp hr
    exact mix_length
  · obtain ⟨k, k1, k2⟩ := get ha
    obtain ⟨m, m1, m2⟩ := get hb
    exact hY.up k m a b (hT.up i j k m hij k1 m1) k2 m2
  · obtain ⟨k, k1, k2⟩ := get e
    have hi : i < T.length := by rw [hT.len]; exact (List.getElem?_eq_some_iff.mp k1).1
    have hq := hY.lt k q k2
    rw [ent_mix hi (by omega), sumTo_congr (g := fun _ => 0) fun m hm => below k1 k2 (by omega) hm (.inr hj), sumTo_zero]
  · obtain ⟨k, k1, k2⟩ := get e
    rw [val i k q k1 k2]
    exact Int.mul_pos (hT.pos i k k1) (hY.pos k q k2)
end
/-- a list that climbs below its length is 0, 1, 2 .. -/
theorem climb {n : Nat} {L : List Nat} (hl : L.length = n) (hlt : ∀ (i q : Nat), L[i]? = some q → q < n) (hup : ∀ (i j a b : Nat), i < j → L[i]? = some a → L[j]? = some b → a < b) : ∀ i, i < n → L[i]? = some i := by
  have lo : ∀ (i q : Nat), L[i]? = some q → i ≤ q := fun i => by
    induction i with
    | zero => intro q _; omega
    | succ i ih =>
      intro q e
      have hi := (List.getElem?_eq_some_iff.mp e).1
      have e2 : L[i]? = some L[i] := List.getElem?_eq_getElem (by omega)
      have := ih _ e2
      have := hup i (i + 1) _ _ (by omega) e2 e
      omega
  have hi : ∀ (d i q : Nat), i + d + 1 = n → L[i]? = some q → q + d + 1 ≤ n := fun d => by
    induction d with
    | zero => intro i q _ e; have := hlt i q e; omega
    | succ d ih =>
      intro i q h e
      have e2 : L[i + 1]? = some L[i + 1] := List.getElem?_eq_getElem (by omega)
      have := ih (i + 1) _ (by omega) e2
      have := hup i (i + 1) _ _ (by omega) e e2
      omega
  intro i h
  have e : L[i]? = some L[i] := List.getElem?_eq_getElem (by omega)
  have h1 := lo i _ e
  have h2 := hi (n - i - 1) i _ (by omega) e
  rw [e]
  congr 1
  omega
def prodTo : Nat → (Nat → Int) → Int
  | 0, _ => 1
  | n + 1, f => prodTo n f * f n
theorem prodTo_congr {n : Nat} {f g : Nat → Int} (h : ∀ i, i < n → f i = g i) : prodTo n f = prodTo n g := by
  induction n with
  | zero => rfl
  | succ n ih => unfold prodTo; rw [ih fun i hi => h i (by omega), h n (by omega)]
theorem prodTo_mul {n : Nat} {f g : Nat → Int} : prodTo n (fun i => f i * g i) = prodTo n f * prodTo n g := by
  induction n with
  | zero => rfl
  | succ n ih =>
    show prodTo n (fun i => f i * g i) * (f n * g n) = prodTo n f * f n * (prodTo n g * g n)
    rw [ih, Int.mul_assoc, Int.mul_assoc, ← Int.mul_assoc (prodTo n g), Int.mul_comm (prodTo n g) (f n), Int.mul_assoc]
theorem prodTo_pos {n : Nat} {f : Nat → Int} (h : ∀ i, i < n → 0 < f i) : 0 < prodTo n f := by
  induction n with
  | zero => exact Int.one_pos
  | succ n ih => exact Int.mul_pos (ih fun i hi => h i (by omega)) (h n (by omega))
/-- the product of the leads -/
def ldF (S : Mat) (i : Nat) : Int := ent S i (leadPl (S.getD i []))
def lds (S : Mat) : Int := prodTo S.length (ldF S)
theorem ld_pos {w : Nat} {S : Mat} {L : List Nat} (h : Hs w S L) {i : Nat} (hi : i < S.length) : 0 < ldF S i ∧ L[i]? = some (leadPl (S.getD i [])) := by
  obtain ⟨q, _, hq, e⟩ := h.lead hi
  unfold ldF
  rw [leadPl_eq hq]
  exact ⟨h.pos i q e, e⟩
def stepsOf (Y M : Mat) : Mat := stairs (M.map (coor Y)) Y.length
theorem coor_wid {Y M : Mat} : Wid Y.length (M.map (coor Y)) := fun r hr => by
  obtain ⟨x, _, rfl⟩ := List.mem_map.mp hr
  simp [coor]
theorem classes_ok {w : Nat} {Y M : Mat} {LY LM : List Nat} (hY : Hs w Y LY) (hM : Hs w M LM) (hl : M.length = Y.length) (hin : ∀ r ∈ M, Spn w Y r) :
    (stepsOf Y M).length = Y.length ∧ lds M = prodTo Y.length (fun i => ent (stepsOf Y M) i i) * lds Y := by
  obtain ⟨LT, hT⟩ := stairs_hs (coor_wid (Y := Y) (M := M))
  obtain ⟨he, hv⟩ := eh_mix hY hT
  have back : (M.map (coor Y)).map (fun a => mixM a Y w) = M := by
    rw [List.map_map]
    exact (List.map_congr_left fun x hx => coor_ok hY (hin x hx)).trans (List.map_id M)
  have span : ∀ v, Spn w ((stairs (M.map (coor Y)) Y.length).map fun a => mixM a Y w) v ↔ Spn w M v := fun v => by
    constructor
    · intro h
      obtain ⟨c, hc, rfl⟩ := span_mixed hT.wid h
      have := span_mix (w := w) (Y := Y) coor_wid ((stairs_span coor_wid c).mp hc)
      rw [back] at this
      exact this
    · intro h
      rw [← back] at h
      obtain ⟨c, hc, rfl⟩ := span_mixed coor_wid h
      exact span_mix hT.wid ((stairs_span coor_wid c).mpr hc)
  obtain ⟨eL, eV⟩ := eh_leads he hM.eh span
  have lT : (stepsOf Y M).length = Y.length := by
    have := he.len
    rw [List.length_map, eL, ← hM.len, hl] at this
    exact this
  refine ⟨lT, ?_⟩
  have hLT : LT.length = Y.length := by rw [← hT.len]; exact lT
  have cl := climb hLT hT.lt hT.up
  unfold lds
  rw [hl, ← prodTo_mul]
  refine prodTo_congr fun i hi => ?_
  obtain ⟨_, y2⟩ := ld_pos hY hi
  obtain ⟨_, m2⟩ := ld_pos hM (i := i) (by omega)
  have c1 := cl i hi
  have e1 : (LT.map fun k => LY.getD k 0)[i]? = some (leadPl (M.getD i [])) := by rw [eL]; exact m2
  have e2 : leadPl (M.getD i []) = leadPl (Y.getD i []) := by
    rw [List.getElem?_map, c1] at e1
    injection e1 with e1
    rw [← e1]
    show LY.getD i 0 = _
    rw [List.getD_eq_getElem?_getD (l := LY), y2]
    rfl
  have e3 := eV i _ e1
  have e4 := hv i i _ c1 y2
  unfold ldF
  rw [← e3, e2]
  exact e4
end G
end
section
set_option linter.all false
set_option maxRecDepth 10000
namespace G
/-! ### sizes: at the last place nothing grows -/
theorem pull_last {w p b : Nat} {m : Mat} (hw : Wid w m) (hz : ∀ i j, j < p → ent m i j = 0) (hp : p + 1 = w) (h : Le (2 ^ b) m) {r : Row} {m' : Mat} (e : pull m p = (some r, m')) : RB (2 ^ b) r := by
  rcases pull_cases (w := w) (p := p) (P := fun m => Le (2 ^ b) m ∧ ∀ i j, j < p → ent m i j = 0) (fun m b' h1 h2 h3 _ => by
    have hb := (lb_some h3).1
    refine ⟨fun i q => ?_, fun i q hq => ?_⟩
    · by_cases e1 : q = p
      · subst e1
        have := (rnd_col h1 h3 i).1
        unfold meas at this
        rw [h3] at this
        exact Nat.le_trans this (h2.1 b' q)
      · by_cases e2 : q < p
        · rw [ent_rnd' h1 hb, h2.2 i q e2, h2.2 b' q e2]
          split <;> simp
        · have hlen : ((rnd m p b').getD i []).length ≤ q := by
            by_cases hi : i < (rnd m p b').length
            · rw [(rnd_wid h1).get hi]
              omega
            · rw [List.getD_eq_getElem?_getD, List.getElem?_eq_none (by omega)]
              exact Nat.zero_le _
          unfold ent
          rw [at0_out hlen]
          exact Nat.zero_le _
    · rw [ent_rnd' h1 hb, h2.2 i q hq, h2.2 b' q hq]
      split <;> simp) _ m (Nat.lt_succ_self _) hw ⟨h, hz⟩ with ⟨q, _⟩ | ⟨m1, b1, h1, h2, hP, h3, h4, q⟩
  · rw [q] at e
    cases e
  · rw [q] at e
    cases e
    have hb := (lb_some h3).1
    intro j
    rw [at0_norm]
    exact hP.1 b1 j
theorem stairs_last {n b : Nat} {m : Mat} (hw : Wid (n + 1) m) (hb : Le (2 ^ b) m) : Le (2 ^ (sbit b n + lbit b n + 1)) (stairs m (n + 1)) := by
  obtain ⟨h1, h2, h3, h4, _⟩ := stF_inv hw hb n
  obtain ⟨L, q⟩ := sts hw n (Nat.le_succ n)
  unfold stairs
  rw [stF_succ]
  unfold stStep
  cases e : pull (stF m n).2 n with
  | mk o l =>
    cases o with
    | none => exact h3.mono (by omega)
    | some r =>
      have hr := pull_last h2 q.z rfl h4 e
      have lr := (pull_some h2 e).1
      refine le_iff.mpr fun x hx => ?_
      rcases List.mem_append.mp hx with z | z
      · obtain ⟨y, hy, rfl⟩ := List.mem_map.mp z
        exact rb_lsd (by rw [h1 y hy, lr]) (le_iff.mp h3 y hy) hr
      · rw [List.mem_singleton.mp z]
        exact hr.mono (by omega)
/-- normal rows of width at most 4 -/
theorem normal_size {w : Nat} {m : Mat} (hw : Wid w m) (h4 : w ≤ 4) (hb : Le (2 ^ 20) m) : Le (2 ^ 3108) (stairs m w) := by
  match w, h4, hw with
  | 0, _, _ =>
    intro i j
    have e : stairs m 0 = [] := rfl
    rw [e, ent_out (Nat.zero_le _)]
    exact Nat.zero_le _
  | 1, _, hw => exact (stairs_last hw hb).mono (by decide)
  | 2, _, hw => exact (stairs_last hw hb).mono (by decide)
  | 3, _, hw => exact (stairs_last hw hb).mono (by decide)
  | 4, _, hw => exact (stairs_last hw hb).mono (by decide)
  | w + 5, h, _ => omega
theorem sumTo_abs {X : Nat} {f : Nat → Int} : ∀ {n : Nat}, (∀ i, i < n → (f i).natAbs ≤ X) → (sumTo n f).natAbs ≤ n * X
  | 0, _ => by simp [sumTo]
  | n + 1, h => by
    have ih := sumTo_abs (n := n) fun i hi => h i (by omega)
    have := h n (by omega)
    show (sumTo n f + f n).natAbs ≤ _
    have e : (n + 1) * X = n * X + X := Nat.succ_mul n X
    omega
/-- small weights -/
def Ws (W : Mat) : Prop := ∀ i j, (ent W i j).natAbs ≤ 4
theorem dot_abs {b : Nat} {u r : Row} (hu : ∀ i, (at0 u i).natAbs ≤ 4) (hr : RB (2 ^ b) r) (hl : r.length ≤ 4) : (dot u r).natAbs ≤ 2 ^ (b + 4) := by
  unfold dot
  have h1 := sumTo_abs (n := r.length) (X := 4 * 2 ^ b) (f := fun i => at0 u i * at0 r i) fun i _ => by
    rw [Int.natAbs_mul]
    exact Nat.mul_le_mul (hu i) (hr i)
  have h2 : r.length * (4 * 2 ^ b) ≤ 4 * (4 * 2 ^ b) := Nat.mul_le_mul_right _ hl
  have e : 2 ^ (b + 4) = 4 * (4 * 2 ^ b) := by rw [Nat.pow_add]; omega
  omega
theorem shows_size {w b : Nat} {A W : Mat} (hA : Wid w A) (h4 : w ≤ 4) (hW : Ws W) (hb : Le (2 ^ b) A) : Le (2 ^ (b + 4)) (shows A W) := le_iff.mpr fun r hr j => by
  obtain ⟨s, hs, rfl⟩ := List.mem_map.mp hr
  have hs2 := le_iff.mp hb s hs
  rw [at0_show]
  split
  · exact dot_abs (fun i => hW j i) hs2 (by rw [hA s hs]; exact h4)
  · exact Nat.le_trans (hs2 _) (Nat.pow_le_pow_right (by decide) (by omega))
theorem drp_size {n b : Nat} {A : Mat} (h : Le (2 ^ b) A) : Le (2 ^ b) (drp n A) := le_iff.mpr fun r hr j => by
  obtain ⟨s, hs, rfl⟩ := List.mem_map.mp hr
  rw [at0_drop]
  exact le_iff.mp h s hs _
/-- what the cut's stairs are taken of -/
theorem cutR_size {w : Nat} {A W : Mat} (hA : Wid w A) (h4 : w ≤ 4) (hW : Ws W) (hn : W.length ≤ 3) (hb : Le (2 ^ 3108) A) : Le (2 ^ 199231) (cutR A W) := by
  have hs := shows_size hA h4 hW hb
  obtain ⟨_, _, _, h, _⟩ := stF_inv (shows_wid (W := W) hA) hs W.length
  have hm := lbit_mono (3108 + 4) hn
  have e : lbit (3108 + 4) 3 = 199231 := by decide
  exact drp_size (h.mono (by omega))
theorem lb_cut1 {n : Nat} (hn : n ≤ 3) : ∀ k, k < n → lbit 3112 k ≤ 14000000 := fun k hk => by
  have hm := lbit_mono 3112 (n := k) (k := 3) (by omega)
  have e : lbit 3112 3 = 199231 := by decide
  omega
theorem lb_cut2 {w : Nat} (hw : w ≤ 4) : ∀ k, k < w → lbit 199231 k ≤ 14000000 := fun k hk => by
  have hm := lbit_mono 199231 (n := k) (k := 3) (by omega)
  have e : lbit 199231 3 = 12750847 := by decide
  omega
/-- amounts of normal rows -/
theorem coor_size {w : Nat} {Y : Mat} {x : Row} (hY : Wid w Y) (hx : x.length = w) (h4 : Y.length ≤ 4) (hb : Le (2 ^ 3108) Y) (hr : RB (2 ^ 3108) x) : RB (2 ^ 15544) (coor Y x) := fun j => by
  by_cases hj : j < Y.length
  · rw [coor_at hj]
    unfold coorF
    refine Nat.le_trans (fdiv_abs _ _) ?_
    have := (redF_inv hY hx hb hr j (by omega)).2 (leadPl (Y.getD j []))
    refine Nat.le_trans this (Nat.pow_le_pow_right (by decide) ?_)
    omega
  · rw [at0_out (by simp [coor]; omega)]
    exact Nat.zero_le _
end G
end
section
set_option linter.all false
set_option maxRecDepth 10000
namespace G
/-! ### rows that are normal already -/
/-- at most one row is busy at the place -/
def Solo (m : Mat) (p : Nat) : Prop := ∀ i j, ent m i p ≠ 0 → ent m j p ≠ 0 → i = j
def Ok1 (b : Nat) (m : Mat) (p : Nat) : Prop := PB (2 ^ b) m p ∨ Solo m p
theorem Solo.clean {m : Mat} {p b : Nat} (h : Solo m p) (e : lb m p = some b) : Clean m p b := fun i hi hn => by
  refine Decidable.byContradiction fun z => hn (h i b z (lb_some e).2.1)
theorem Ok1.step {b w p b2 : Nat} {m : Mat} (h : Ok1 b m p) (hw : Wid w m) (e : lb m p = some b2) : (∀ i, i ≠ b2 → ent m i p ≠ 0 → Le (3 * (2 ^ b) ^ 4) m) ∧ (¬ Clean (rnd m p b2) p b2 → Ok1 b (rnd m p b2) p) := by
  rcases h with h | h
  · obtain ⟨a1, _, a3⟩ := h.step (Nat.pow_pos (by decide)) hw e
    exact ⟨fun _ _ _ => a1, fun z => .inl (a3 z)⟩
  · have hc := h.clean e
    refine ⟨fun i hn hz => absurd (h i b2 hz (lb_some e).2.1) hn, fun z => absurd ?_ z⟩
    rw [rnd_alone hc]
    exact hc
theorem Solo.bz {m : Mat} {p : Nat} (h : Solo m p) : (bz m p).length ≤ 1 := by
  have nd : (G.bz m p).Nodup := List.Pairwise.filter _ List.nodup_range
  match e : G.bz m p with
  | [] => simp
  | [a] => simp
  | a :: b :: t =>
    rw [e] at nd
    have ha : a ∈ G.bz m p := by rw [e]; exact .head _
    have hb : b ∈ G.bz m p := by rw [e]; exact .tail _ (.head _)
    have := h a b (mem_bz.mp ha).2 (mem_bz.mp hb).2
    subst this
    simp at nd
theorem ent_drop {m : Mat} {k i j : Nat} : ent (m.drop k) i j = ent m (k + i) j := by
  unfold ent
  rw [List.getD_eq_getElem?_getD, List.getElem?_drop, List.getD_eq_getElem?_getD]
theorem Hs.ex {w : Nat} {S : Mat} {L : List Nat} (h : Hs w S L) {i : Nat} (hi : i < S.length) : ∃ q, L[i]? = some q := by
  have hl : i < L.length := by rw [← h.len]; exact hi
  exact ⟨L[i], List.getElem?_eq_getElem hl⟩
/-- what a pull finds in the rows behind the leads -/
theorem pull_hs {w n k : Nat} {m : Mat} {L : List Nat} (h : Hs w m L) (hk : ∀ i q, L[i]? = some q → (q < n ↔ i < k)) : Solo (m.drop k) n ∧
    ((L[k]? = some n ∧ k < m.length ∧ pull (m.drop k) n = (some (m.getD k []), m.drop (k + 1))) ∨ ((∀ q, L[k]? = some q → q ≠ n) ∧ pull (m.drop k) n = (none, m.drop k))) := by
  have other : ∀ i, i ≠ 0 ∨ L[k]? ≠ some n → ent (m.drop k) i n = 0 := fun i hi => by
    rw [ent_drop]
    by_cases hl : k + i < m.length
    · obtain ⟨q, e⟩ := h.ex hl
      refine h.zero _ _ n e ?_
      have h1 := hk _ _ e
      by_cases z : i = 0
      · subst z
        rcases hi with hi | hi
        · omega
        · have : q ≠ n := fun y => hi (by rw [← y]; exact e)
          omega
      · obtain ⟨q0, e0⟩ := h.ex (i := k) (by omega)
        have h2 := hk _ _ e0
        have h3 := h.up k (k + i) _ _ (by omega) e0 e
        omega
    · exact ent_out (by omega)
  have solo : Solo (m.drop k) n := fun i j hi hj => by
    have a : i = 0 := Decidable.byContradiction fun z => hi (other i (.inl z))
    have b : j = 0 := Decidable.byContradiction fun z => hj (other j (.inl z))
    rw [a, b]
  refine ⟨solo, ?_⟩
  by_cases hn : L[k]? = some n
  · have hkm : k < m.length := by rw [h.len]; exact (List.getElem?_eq_some_iff.mp hn).1
    have hp := h.pos k n hn
    refine .inl ⟨hn, hkm, ?_⟩
    have hb : lb (m.drop k) n = some 0 := by
      cases e : lb (m.drop k) n with
      | none =>
        have := lb_none e 0
        rw [ent_drop] at this
        simp only [Nat.add_zero] at this
        omega
      | some c =>
        have := (lb_some e).2.1
        have : c = 0 := Decidable.byContradiction fun z => this (other c (.inl z))
        rw [this]
    have hc := solo.clean hb
    have hr := rnd_alone hc
    have := pull_clean hb (by rw [hr]; exact hc)
    rw [hr] at this
    rw [this]
    have e0 : (m.drop k).getD 0 [] = m.getD k [] := by
      rw [List.getD_eq_getElem?_getD, List.getElem?_drop, List.getD_eq_getElem?_getD]
      rfl
    have e1 : (m.drop k).eraseIdx 0 = m.drop (k + 1) := by
      rw [List.eraseIdx_zero, List.tail_drop]
    rw [e0, e1]
    congr 2
    unfold norm
    exact if_pos hp
  · refine .inr ⟨fun q e z => hn (by rw [e, z]), pull_none ?_⟩
    cases e : lb (m.drop k) n with
    | none => rfl
    | some c => exact absurd (other c (.inr hn)) (lb_some e).2.1
theorem stF_hs {w : Nat} {m : Mat} {L : List Nat} (h : Hs w m L) : ∀ n, ∃ k, k ≤ m.length ∧ stF m n = (m.take k, m.drop k) ∧ ∀ i q, L[i]? = some q → (q < n ↔ i < k)
  | 0 => ⟨0, Nat.zero_le _, rfl, fun i q _ => by omega⟩
  | n + 1 => by
    obtain ⟨k, h1, h2, h3⟩ := stF_hs h n
    obtain ⟨_, h4⟩ := pull_hs h h3
    rw [stF_succ, h2]
    unfold stStep
    rcases h4 with ⟨a1, a2, a3⟩ | ⟨a1, a2⟩
    · refine ⟨k + 1, a2, ?_, fun i q e => ?_⟩
      · dsimp only
        rw [a3]
        dsimp only
        congr 1
        have e1 : m.take (k + 1) = m.take k ++ [m.getD k []] := by
          rw [List.take_succ, List.getElem?_eq_getElem a2, List.getD_eq_getElem?_getD, List.getElem?_eq_getElem a2]
          rfl
        rw [e1]
        congr 1
        conv => rhs; rw [← List.map_id (m.take k)]
        refine List.map_congr_left fun r hr => ?_
        obtain ⟨i, hi, er⟩ := List.getElem_of_mem hr
        have hik : i < k := by rw [List.length_take] at hi; omega
        have eg : m.getD i [] = r := by
          rw [List.getD_eq_getElem?_getD, List.getElem?_eq_getElem (by omega)]
          rw [List.getElem_take] at er
          exact er
        have := h.red i k n hik a1
        unfold ent at this
        rw [eg] at this
        have lr := h.wid.get (i := i) (by omega)
        have lk := h.wid.get (i := k) a2
        rw [eg] at lr
        unfold lsd
        rw [Int.fdiv_eq_zero_of_lt this.1 this.2]
        exact less_zero (by omega)
      · have := h3 i q e
        by_cases z : i = k
        · subst z
          rw [a1] at e
          cases e
          omega
        · have e0 := a1
          constructor
          · intro hq
            refine Decidable.byContradiction fun y => ?_
            have := h.up k i n q (by omega) e0 e
            omega
          · intro hq
            have := this.mpr (by omega)
            omega
    · refine ⟨k, h1, by dsimp only; rw [a2], fun i q e => ?_⟩
      have := h3 i q e
      constructor
      · intro hq
        by_cases z : q = n
        · refine Decidable.byContradiction fun y => ?_
          have ik : i ≠ k := fun x => a1 q (by rw [← x]; exact e) z
          obtain ⟨q0, e0⟩ := h.ex (i := k) (by have := (List.getElem?_eq_some_iff.mp e).1; have := h.len; omega)
          have h5 := h.up k i _ q (by omega) e0 e
          have := (h3 k _ e0).mp (by omega)
          omega
        · exact this.mp (by omega)
      · intro hi
        have := this.mpr hi
        omega
/-- normal rows are their own stairs -/
theorem stairs_hs_id {w : Nat} {m : Mat} {L : List Nat} (h : Hs w m L) : stairs m w = m := by
  obtain ⟨k, h1, h2, h3⟩ := stF_hs h w
  unfold stairs
  rw [h2]
  have : k = m.length := by
    refine Decidable.byContradiction fun z => ?_
    obtain ⟨q0, e0⟩ := h.ex (i := k) (by omega)
    have := (h3 k _ e0).mp (h.lt _ _ e0)
    omega
  rw [this]
  exact List.take_length
end G
end
section
set_option Elab.async false
set_option linter.all false
set_option maxRecDepth 100000
namespace G
theorem mix_spn {w : Nat} {m : Mat} (hw : Wid w m) (a : Row) : Spn w m (mixM a m w) := by
  have h : ∀ n, n ≤ m.length → Spn w m ((List.range w).map fun j => sumTo n fun i => at0 a i * ent m i j) := by
    intro n
    induction n with
    | zero =>
      intro _
      have e : ((List.range w).map fun j => sumTo 0 fun i => at0 a i * ent m i j) = zr w := row_ext (by rw [zr_length]; simp) fun i => by
        rw [at0_map_range, at0_zr]
        split <;> rfl
      rw [e]
      exact .zero
    | succ n ih =>
      intro hn
      have e : ((List.range w).map fun j => sumTo (n + 1) fun i => at0 a i * ent m i j) = less ((List.range w).map fun j => sumTo n fun i => at0 a i * ent m i j) (-(at0 a n)) (m.getD n []) :=
        row_ext (by rw [less_length]; simp) fun i => by
          rw [at0_less (by rw [hw.get (by omega)]; simp), at0_map_range, at0_map_range]
          split
          · show sumTo n _ + at0 a n * ent m n i = _
            rw [Int.neg_mul, Int.sub_neg]
            rfl
          · rename_i h
            rw [at0_out (r := m.getD n []) (by rw [hw.get (by omega)]; omega)]
            simp
      rw [e]
      exact (ih (by omega)).less hw (.mem hw (getD_mem (by omega))) _
  exact h m.length (Nat.le_refl _)
/-! ### rows with one number each -/
def dgR (w : Nat) (c : Int) (i : Nat) : Row := (List.range w).map fun j => if j = i then c else 0
def DG (w : Nat) (c : Int) : Mat := (List.range w).map (dgR w c)
theorem dg_length {w : Nat} {c : Int} : (DG w c).length = w := by simp [DG]
theorem dg_get {w i : Nat} {c : Int} (h : i < w) : (DG w c).getD i [] = dgR w c i := by
  unfold DG
  rw [getD_map_range, if_pos h]
theorem dg_wid {w : Nat} {c : Int} : Wid w (DG w c) := fun r hr => by
  obtain ⟨i, _, rfl⟩ := List.mem_map.mp hr
  simp [dgR]
theorem dg_ent {w i j : Nat} {c : Int} (h : i < w) : ent (DG w c) i j = if j < w then (if j = i then c else 0) else 0 := by
  unfold ent
  rw [dg_get h]
  exact at0_map_range
theorem unit_eq {w i : Nat} : unitR w i = dgR w 1 i := rfl
theorem dg_hs {w : Nat} {c : Int} (hc : 0 < c) : Hs w (DG w c) (List.range w) where
  len := by rw [dg_length, List.length_range]
  wid := dg_wid
  up := fun i j a b h ha hb => by
    rw [range_get] at ha hb
    split at ha <;> split at hb <;> simp at ha hb
    omega
  lt := fun i q h => by
    rw [range_get] at h
    split at h <;> simp at h
    omega
  zero := fun i q j h hj => by
    rw [range_get] at h
    split at h <;> simp at h
    rw [dg_ent (by omega), if_pos (by omega), if_neg (by omega)]
  pos := fun i q h => by
    rw [range_get] at h
    split at h <;> simp at h
    rw [dg_ent (by omega), if_pos (by omega), if_pos (by omega)]
    exact hc
  red := fun i k q h hq => by
    rw [range_get] at hq
    split at hq <;> simp at hq
    rw [dg_ent (by omega), if_pos (by omega), if_neg (by omega), dg_ent (by omega), if_pos (by omega), if_pos (by omega)]
    exact ⟨Int.le_refl _, hc⟩
theorem dg_st {w : Nat} {c : Int} (hc : 0 < c) : stairs (DG w c) w = DG w c := stairs_hs_id (dg_hs hc)
theorem spn_unit {w : Nat} {r : Row} (h : r.length = w) : Spn w (DG w 1) r := by
  have e : mixM r (DG w 1) w = r := row_ext (by rw [mix_length, h]) fun j => by
    rw [mix_at, dg_length]
    split
    · rename_i hj
      rw [← sumTo_one (f := at0 r) hj]
      refine sumTo_congr fun i hi => ?_
      rw [dg_ent hi, if_pos hj, Int.mul_comm]
      by_cases z : i = j
      · rw [if_pos z, if_pos z.symm]
      · rw [if_neg z, if_neg (fun y => z y.symm)]
    · rw [at0_out (by omega)]
  have := mix_spn (dg_wid (w := w) (c := 1)) r
  rw [e] at this
  exact this
theorem dg_lds {w : Nat} {c : Int} (hc : 0 < c) : lds (DG w c) = prodTo w (fun _ => c) := by
  unfold lds
  rw [dg_length]
  refine prodTo_congr fun i hi => ?_
  obtain ⟨_, e⟩ := ld_pos (dg_hs hc) (i := i) (by rw [dg_length]; exact hi)
  rw [range_get, if_pos hi] at e
  injection e with e
  unfold ldF
  rw [← e, dg_ent hi, if_pos hi, if_pos rfl]
theorem prodTo_ones {n : Nat} : prodTo n (fun _ => 1) = 1 := by
  induction n with
  | zero => rfl
  | succ n ih => unfold prodTo; rw [ih]; rfl
theorem dg_classes {w : Nat} {c : Int} (hc : 0 < c) : prodTo w (fun i => ent (stepsOf (DG w 1) (DG w c)) i i) = prodTo w (fun _ => c) := by
  obtain ⟨_, h⟩ := classes_ok (dg_hs (w := w) (c := 1) (by decide)) (dg_hs (w := w) hc) (by rw [dg_length, dg_length]) fun r hr => spn_unit (dg_wid r hr)
  rw [dg_lds hc, dg_lds (by decide), prodTo_ones, Int.mul_one, dg_length] at h
  exact h.symm
/-- a lattice over itself has one class -/
theorem self_classes {w : Nat} {S : Mat} {L : List Nat} (h : Hs w S L) : prodTo S.length (fun i => ent (stepsOf S S) i i) = 1 := by
  obtain ⟨_, e⟩ := classes_ok h h rfl fun r hr => .mem h.wid hr
  have hp : 0 < lds S := prodTo_pos fun i hi => (ld_pos h hi).1
  have e2 : 1 * lds S = prodTo S.length (fun i => ent (stepsOf S S) i i) * lds S := by rw [Int.one_mul]; exact e
  exact (Int.eq_of_mul_eq_mul_right (by omega) e2).symm
theorem lds_pos {w : Nat} {S : Mat} {L : List Nat} (h : Hs w S L) : 0 < lds S := prodTo_pos fun i hi => (ld_pos h hi).1
theorem index_ok {w : Nat} {Y M : Mat} {LY LM : List Nat} (hY : Hs w Y LY) (hM : Hs w M LM) (hl : M.length = Y.length) (hin : ∀ r ∈ M, Spn w Y r) :
    (lds M).fdiv (lds Y) = prodTo Y.length (fun i => ent (stepsOf Y M) i i) := by
  obtain ⟨_, e⟩ := classes_ok hY hM hl hin
  have := lds_pos hY
  rw [e]
  exact Int.mul_fdiv_cancel _ (by omega)
/-! ### what is within -/
theorem isz_in {w : Nat} {A : Mat} (hA : Wid w A) {r : Row} (h : Spn w A r) : isz (red (stairs A w) r) = true := by
  obtain ⟨L, hL⟩ := stairs_hs hA
  exact isz_iff.mpr fun j => red_in hL ((stairs_span hA r).mpr h) j
theorem dvd_span {w : Nat} {c : Int} {v : Row} (h : Spn w (DG w c) v) (j : Nat) : c ∣ at0 v j := by
  refine Spn.all (T := fun v => c ∣ at0 v j) h dg_wid (by rw [at0_zr]; exact ⟨0, by simp⟩) fun v r k hv hr ht => ?_
  rw [at0_less (by rw [hv, dg_wid r hr])]
  obtain ⟨i, hi, rfl⟩ := List.mem_map.mp hr
  have : c ∣ at0 (dgR w c i) j := by
    unfold dgR
    rw [at0_map_range]
    split
    · split
      · exact ⟨1, by simp⟩
      · exact ⟨0, by simp⟩
    · exact ⟨0, by simp⟩
  obtain ⟨x, hx⟩ := ht
  obtain ⟨y, hy⟩ := this
  exact ⟨x - k * y, by rw [hx, hy, Int.mul_sub, Int.mul_left_comm]⟩
theorem left_same {w : Nat} {A B W : Mat} {y : Row} (hA : Wid w A) (hB : Wid w B) (h : ∀ v, Spn w A v ↔ Spn w B v) (hy : y.length = W.length) : isz ((leftOf A W w y).take W.length) = isz ((leftOf B W w y).take W.length) := by
  rw [Bool.eq_iff_iff, left_zero hA hy, left_zero hB hy]
  constructor
  · rintro ⟨u, h1, h2⟩
    exact ⟨u, (h u).mp h1, h2⟩
  · rintro ⟨u, h1, h2⟩
    exact ⟨u, (h u).mpr h1, h2⟩
theorem told_dots {w : Nat} {A W : Mat} {y : Row} (hA : Wid w A) (hy : y.length = W.length) (hz : isz ((leftOf A W w y).take W.length) = true) : (W.map fun u => dot u (toldOf A W w y)) = y := by
  obtain ⟨_, h⟩ := told_ok hA hy hz
  refine row_ext (by rw [List.length_map, hy]) fun i => ?_
  by_cases hi : i < W.length
  · rw [at0_map hi, h i hi]
  · rw [at0_out (by rw [List.length_map]; omega), at0_out (by omega)]
theorem told_len {w : Nat} {A W : Mat} {y : Row} (hA : Wid w A) (hy : y.length = W.length) : (toldOf A W w y).length = w := by
  obtain ⟨h, _⟩ := left_facts hA hy
  unfold toldOf
  rw [List.length_map, List.length_drop, h]
  omega
end G
end
section
set_option Elab.async false
set_option linter.all false
set_option maxRecDepth 100000
namespace G
open PySem L2 PyProof.Rows
/-! ### sizes of ints -/
theorem Bd.mono {a b : Nat} {i : Int} (h : Bd a i) (e : a ≤ b) : Bd b i := Nat.lt_of_lt_of_le h (Nat.pow_le_pow_right (by decide) e)
theorem Bd.mul {a b : Nat} {i j : Int} (h : Bd a i) (k : Bd b j) : Bd (a + b) (i * j) := by
  unfold Bd at *
  rw [Int.natAbs_mul, Nat.pow_add]
  exact Nat.mul_lt_mul'' h k
theorem Bd.add {a : Nat} {i j : Int} (h : Bd a i) (k : Bd a j) : Bd (a + 1) (i + j) := by
  unfold Bd at *
  rw [Nat.pow_succ]
  omega
theorem Bd.sub {a : Nat} {i j : Int} (h : Bd a i) (k : Bd a j) : Bd (a + 1) (i - j) := by
  unfold Bd at *
  rw [Nat.pow_succ]
  omega
theorem Bd.neg {a : Nat} {i : Int} (h : Bd a i) : Bd a (-i) := by
  unfold Bd at *
  omega
theorem Bd.zero {a : Nat} : Bd a 0 := Nat.pos_of_ne_zero (by simp)
/-- both factors together below 2^27 bits -/
def CMulG (i j : Int) : Prop := (∃ a b : Nat, Bd a i ∧ Bd b j ∧ a + b ≤ 134217728) ∨ Bd 64 i ∨ Bd 64 j
theorem CMulG.of {i j : Int} {a b : Nat} (h : Bd a i) (k : Bd b j) (e : a + b ≤ 134217728) : CMulG i j := .inl ⟨a, b, h, k, e⟩
theorem CMulG.l {i j : Int} (h : Bd 64 i) : CMulG i j := .inr (.inl h)
theorem CMulG.r {i j : Int} (h : Bd 64 j) : CMulG i j := .inr (.inr h)
theorem CMulG.ok {i j : Int} (h : CMulG i j) : IntMulOk i j := by
  rcases h with ⟨a, b, h1, h2, h3⟩ | h | h
  · exact mulOk_of_bits (intBits_le h1) (intBits_le h2) h3
  · exact .of_left (intBits_le h)
  · exact .of_right (intBits_le h)
/-! ### division at any size -/
structure Seer (X : Cx) : Prop where
  ns : X.base.NoSeer
  tr : X.prog.given.tree = none
  st : ∃ e l, X.stack = e :: l ∧ e.scope.isGenerator = false ∧ e.scope.isCoroutine = false ∧ e.builtins = builtinsNs ∧ e.globals = mainGlobals
  dp : X.A.depth + 100 < recursionLimit
section
variable {X : Cx}
theorem Seer.room {pins : List (Addr × Obj)} {σ : L2.St} {H : Hp} {s : Shared} (S : Seer X) (I : L2.Inv X pins σ H s) : PylongRoom (model X.prog X.w) X.A s := by
  obtain ⟨e, l, h1, h2, h3, h4, h5⟩ := S.st
  exact PylongRoom.of I.nolimit S.dp (SeerAt.of (S.ns.keeps I.bk) S.tr (by rw [I.ok.frames, h1]) h2 h3 h4 h5)
theorem op_fdivG (S : Seer X) : OpR X (binaryOp .FloorDiv) (rI (fun _ j => j ≠ 0) fun i j => .int (i.fdiv j)) := by
  intro pins s σ H x y v u Q I rx ry h
  obtain ⟨i, j, rfl, rfl, hc, q⟩ := h
  obtain ⟨t, rfl⟩ := rx
  obtain ⟨t', rfl⟩ := ry
  exact floordiv_int hc ⟨.int _, H, I.tok _, ⟨_, rfl⟩, q⟩ (.inr (S.room I))
theorem op_mulG : OpR X (binaryOp .Mult) (rI CMulG fun i j => .int (i * j)) := opI fun _ _ _ _ _ _ _ hc q => mul_int q hc.ok
end
end G
end
section
set_option Elab.async false
set_option linter.all false
set_option maxRecDepth 100000
namespace G
open PySem L2 PyProof.Rows
/-! ### heaps cut -/
open Classical in
noncomputable def off (H : Hp) (M : Addr → Prop) : Hp := fun a => if M a then none else H a
theorem off_some {H : Hp} {M : Addr → Prop} {a : Addr} {o : HO} : off H M a = some o ↔ ¬ M a ∧ H a = some o := by
  unfold off
  by_cases h : M a
  · rw [if_pos h]
    exact ⟨fun z => (by cases z), fun z => absurd h z.1⟩
  · rw [if_neg h]
    exact ⟨fun z => ⟨h, z⟩, fun z => z.2⟩
theorem off_in {H : Hp} {M : Addr → Prop} {a : Addr} {o : HO} (h : ¬ M a) (e : H a = some o) : off H M a = some o := off_some.mpr ⟨h, e⟩
theorem off_same {H : Hp} {M : Addr → Prop} : Same (off H M) H := fun _ _ h => (off_some.mp h).2
theorem off_mono {H H' : Hp} {M : Addr → Prop} (h : Same H H') : Same (off H M) (off H' M) := fun _ _ e => off_in (off_some.mp e).1 (h _ _ (off_some.mp e).2)
/-- fewer are cut -/
theorem off_less {H : Hp} {M N : Addr → Prop} (h : ∀ a, N a → M a) : Same (off H M) (off H N) := fun _ _ e => off_in (fun z => (off_some.mp e).1 (h _ z)) (off_some.mp e).2
theorem off_imp {H H' : Hp} {M N : Addr → Prop} (s : Same H H') (h : ∀ a, N a → M a ∨ H a = none) : Same (off H M) (off H' N) := fun a o e => by
  obtain ⟨h1, h2⟩ := off_some.mp e
  refine off_in (fun z => ?_) (s _ _ h2)
  rcases h a z with q | q
  · exact h1 q
  · rw [q] at h2; cases h2
/-- what was there -/
def dom (H : Hp) : Addr → Prop := fun a => H a ≠ none
/-- one more -/
def wth (M : Addr → Prop) (l : Addr) : Addr → Prop := fun a => M a ∨ a = l
theorem wth_l {M : Addr → Prop} {l : Addr} : wth M l l := .inr rfl
theorem wth_m {M : Addr → Prop} {l a : Addr} (h : M a) : wth M l a := .inl h
/-- a change at a cut place -/
theorem off_upd {H : Hp} {M : Addr → Prop} {l : Addr} {o : HO} (h : M l) : off (upd H l o) M = off H M := by
  funext a
  unfold off
  by_cases m : M a
  · rw [if_pos m, if_pos m]
  · rw [if_neg m, if_neg m]
    exact upd_ne fun e => m (e ▸ h)
theorem same_new {H : Hp} {p : Addr} {o : HO} (h : H p = none) : Same H (upd H p o) := fun b u e => by
  rw [upd_ne (ne_of_none e h)]
  exact e
theorem same_mut {H H' : Hp} {p : Addr} {o : HO} (e : Same H H') (h : H p = none) : Same H (upd H' p o) := fun b u q => by
  rw [upd_ne (ne_of_none q h)]
  exact e b u q
theorem dom_of {H : Hp} {a : Addr} {o : HO} (h : H a = some o) : dom H a := by
  unfold dom
  rw [h]
  exact fun z => by cases z
theorem dom_same {H H' : Hp} {a : Addr} (s : Same H H') (h : dom H a) : dom H' a := by
  unfold dom at *
  cases e : H a with
  | none => exact absurd e h
  | some o => rw [s a o e]; exact fun z => by cases z
theorem fresh_ne {H : Hp} {a b : Addr} (h : dom H a) (e : H b = none) : a ≠ b := fun z => h (z ▸ e)
/-! ### two lists side by side -/
def All2 {α β : Type} (R : α → β → Prop) : List α → List β → Prop
  | [], [] => True
  | x :: xs, y :: ys => R x y ∧ All2 R xs ys
  | _, _ => False
section
variable {α β : Type} {R S : α → β → Prop}
theorem All2.len : ∀ {xs : List α} {ys : List β}, All2 R xs ys → xs.length = ys.length
  | [], [], _ => rfl
  | _ :: _, _ :: _, h => congrArg (· + 1) (All2.len h.2)
  | [], _ :: _, h => h.elim
  | _ :: _, [], h => h.elim
theorem All2.imp : ∀ {xs : List α} {ys : List β}, (∀ x y, x ∈ xs → y ∈ ys → R x y → S x y) → All2 R xs ys → All2 S xs ys
  | [], [], _, _ => trivial
  | x :: _, y :: _, f, h => ⟨f x y (.head _) (.head _) h.1, All2.imp (fun a b p q => f a b (.tail _ p) (.tail _ q)) h.2⟩
  | [], _ :: _, _, h => h.elim
  | _ :: _, [], _, h => h.elim
theorem All2.get : ∀ {xs : List α} {ys : List β} {i : Nat} {y : β}, All2 R xs ys → ys[i]? = some y → ∃ x, xs[i]? = some x ∧ R x y
  | x :: _, y :: _, 0, _, h, e => by
    rw [List.getElem?_cons_zero] at e
    cases e
    exact ⟨x, rfl, h.1⟩
  | _ :: xs, _ :: ys, i + 1, _, h, e => All2.get (xs := xs) (ys := ys) (i := i) h.2 e
  | [], [], _, _, _, e => by simp at e
  | [], _ :: _, _, _, h, _ => h.elim
  | _ :: _, [], _, _, h, _ => h.elim
theorem All2.get' : ∀ {xs : List α} {ys : List β} {i : Nat} {x : α}, All2 R xs ys → xs[i]? = some x → ∃ y, ys[i]? = some y ∧ R x y
  | x :: _, y :: _, 0, _, h, e => by
    rw [List.getElem?_cons_zero] at e
    cases e
    exact ⟨y, rfl, h.1⟩
  | _ :: xs, _ :: ys, i + 1, _, h, e => All2.get' (xs := xs) (ys := ys) (i := i) h.2 e
  | [], [], _, _, _, e => by simp at e
  | [], _ :: _, _, _, h, _ => h.elim
  | _ :: _, [], _, _, h, _ => h.elim
theorem All2.set : ∀ {xs : List α} {ys : List β} {x : α} {y : β} (i : Nat), All2 R xs ys → R x y → All2 R (xs.set i x) (ys.set i y)
  | [], [], _, _, _, _, _ => trivial
  | _ :: _, _ :: _, _, _, 0, h, r => ⟨r, h.2⟩
  | _ :: _, _ :: _, _, _, i + 1, h, r => ⟨h.1, All2.set i h.2 r⟩
  | [], _ :: _, _, _, _, h, _ => h.elim
  | _ :: _, [], _, _, _, h, _ => h.elim
theorem All2.app : ∀ {xs xs' : List α} {ys ys' : List β}, All2 R xs ys → All2 R xs' ys' → All2 R (xs ++ xs') (ys ++ ys')
  | [], _, [], _, _, k => k
  | _ :: _, _, _ :: _, _, h, k => ⟨h.1, All2.app h.2 k⟩
  | [], _, _ :: _, _, h, _ => h.elim
  | _ :: _, _, [], _, h, _ => h.elim
theorem All2.snoc {xs : List α} {ys : List β} {x : α} {y : β} (h : All2 R xs ys) (r : R x y) : All2 R (xs ++ [x]) (ys ++ [y]) := h.app ⟨r, trivial⟩
theorem All2.erase : ∀ {xs : List α} {ys : List β} (i : Nat), All2 R xs ys → All2 R (xs.eraseIdx i) (ys.eraseIdx i)
  | [], [], _, _ => trivial
  | _ :: _, _ :: _, 0, h => h.2
  | _ :: _, _ :: _, i + 1, h => ⟨h.1, All2.erase i h.2⟩
  | [], _ :: _, _, h => h.elim
  | _ :: _, [], _, h => h.elim
theorem All2.nil : All2 R [] [] := trivial
theorem All2.take : ∀ {xs : List α} {ys : List β} (i : Nat), All2 R xs ys → All2 R (xs.take i) (ys.take i)
  | _, _, 0, _ => trivial
  | [], [], _ + 1, _ => trivial
  | _ :: _, _ :: _, i + 1, h => ⟨h.1, All2.take i h.2⟩
  | [], _ :: _, _ + 1, h => h.elim
  | _ :: _, [], _ + 1, h => h.elim
theorem All2.drop : ∀ {xs : List α} {ys : List β} (i : Nat), All2 R xs ys → All2 R (xs.drop i) (ys.drop i)
  | _, _, 0, h => h
  | [], [], _ + 1, _ => trivial
  | _ :: _, _ :: _, i + 1, h => All2.drop i h.2
  | [], _ :: _, _ + 1, h => h.elim
  | _ :: _, [], _ + 1, h => h.elim
end
/-! ### what a value stands for -/
class Rep (α : Type) where
  rep : Hp → V → α → Prop
  mono : ∀ {H H' : Hp} {v : V} {a : α}, Same H H' → rep H v a → rep H' v a
abbrev rep {α : Type} [Rep α] : Hp → V → α → Prop := Rep.rep
instance : Rep Int := ⟨fun _ v i => v = .int i, fun _ h => h⟩
instance : Rep Bool := ⟨fun _ v i => v = .bl i, fun _ h => h⟩
instance : Rep Str := ⟨fun _ v i => v = .str i, fun _ h => h⟩
def repL {α : Type} [Rep α] (H : Hp) (v : V) (as : List α) : Prop := ∃ p xs, v = .ref p ∧ H p = some (.lst xs) ∧ All2 (rep H) xs as
def repP {α β : Type} [Rep α] [Rep β] (H : Hp) (v : V) (c : α × β) : Prop := ∃ p x y, v = .ref p ∧ H p = some (.tup [x, y]) ∧ rep H x c.1 ∧ rep H y c.2
def repO {α : Type} [Rep α] (H : Hp) (v : V) : Option α → Prop
  | none => v = .non
  | some a => v ≠ .non ∧ rep H v a
theorem all2_mono {α : Type} [Rep α] {H H' : Hp} {xs : List V} {as : List α} (s : Same H H') (h : All2 (rep H) xs as) : All2 (rep H') xs as := h.imp fun _ _ _ _ r => Rep.mono s r
instance {α : Type} [Rep α] : Rep (List α) := ⟨repL, fun s ⟨p, xs, e, h, r⟩ => ⟨p, xs, e, s _ _ h, all2_mono s r⟩⟩
instance {α β : Type} [Rep α] [Rep β] : Rep (α × β) := ⟨repP, fun s ⟨p, x, y, e, h, r, r'⟩ => ⟨p, x, y, e, s _ _ h, Rep.mono s r, Rep.mono s r'⟩⟩
instance {α : Type} [Rep α] : Rep (Option α) := ⟨repO, fun {H H' v a} s h => by
  cases a with
  | none => exact h
  | some a => exact ⟨h.1, Rep.mono s h.2⟩⟩
theorem rep_int {H : Hp} {i : Int} : rep H (.int i) i := rfl
theorem rep_bl {H : Hp} {i : Bool} : rep H (.bl i) i := rfl
theorem all2_ints {H : Hp} : ∀ {xs : List V} {r : Row}, All2 (rep H) xs r ↔ xs = r.map V.int
  | [], [] => ⟨fun _ => rfl, fun _ => trivial⟩
  | x :: xs, i :: r => by
    have ih := all2_ints (H := H) (xs := xs) (r := r)
    constructor
    · rintro ⟨h, k⟩
      have h' : x = .int i := h
      rw [h', ih.mp k]
      rfl
    · intro e
      injection e with e1 e2
      exact ⟨e1, ih.mpr e2⟩
  | [], _ :: _ => ⟨fun h => h.elim, fun h => by cases h⟩
  | _ :: _, [] => ⟨fun h => h.elim, fun h => by cases h⟩
theorem rep_row {H : Hp} {v : V} {r : Row} : rep H v r ↔ ∃ p, v = .ref p ∧ H p = some (.lst (r.map V.int)) := by
  constructor
  · rintro ⟨p, xs, e, h, k⟩
    rw [all2_ints.mp k] at h
    exact ⟨p, e, h⟩
  · rintro ⟨p, e, h⟩
    exact ⟨p, _, e, h, all2_ints.mpr rfl⟩
theorem rep_row_of {H : Hp} {p : Addr} {r : Row} (h : H p = some (.lst (r.map V.int))) : rep H (.ref p) r := rep_row.mpr ⟨p, rfl, h⟩
/-! ### promises of results -/
/-- a new list whose items stand for as, none of them within M, nor the list itself -/
def NewL {α : Type} [Rep α] (M : Addr → Prop) (H : Hp) (as : List α) (Q : VK) : Prop := ∀ p xs H', Same H H' → H p = none → H' p = some (.lst xs) → All2 (rep (off H' (wth M p))) xs as → Q (.ref p) H'
/-- a new row -/
def NewR (H : Hp) (r : Row) (Q : VK) : Prop := ∀ p H', Same H H' → H p = none → H' p = some (.lst (r.map V.int)) → Q (.ref p) H'
/-- some value that stands for a, apart from M -/
def NewV {α : Type} [Rep α] (M : Addr → Prop) (H : Hp) (a : α) (Q : VK) : Prop := ∀ v H', Same H H' → rep (off H' M) v a → Q v H'
theorem NewR.l {M : Addr → Prop} {H : Hp} {r : Row} {Q : VK} (h : NewR H r Q) : NewL M H r Q := fun p xs H' s n e a => by
  rw [all2_ints.mp a] at e
  exact h p H' s n e
theorem off_sub {H : Hp} {M : Addr → Prop} {p : Addr} : Same (off H (wth M p)) (off H M) := off_less fun _ h => .inl h
theorem NewV.l {α : Type} [Rep α] {M : Addr → Prop} {H : Hp} {as : List α} {Q : VK} (hM : ∀ a, M a → dom H a) (h : NewV M H as Q) : NewL M H as Q := fun p xs H' s n e a =>
  h _ _ s ⟨p, xs, rfl, off_in (fun m => hM p m n) e, all2_mono off_sub a⟩
end G
end
section
set_option Elab.async false
set_option linter.all false
set_option maxRecDepth 100000
namespace G
open PySem L2 PyProof.Rows
/-! ### readings by name -/
abbrev rAddI : R2 := rI0 fun i j => .int (i + j)
abbrev rSubI : R2 := rI0 fun i j => .int (i - j)
abbrev rMulI : R2 := rI CMulG fun i j => .int (i * j)
abbrev rDivI : R2 := rI (fun _ j => j ≠ 0) fun i j => .int (i.fdiv j)
abbrev rModI : R2 := rI (fun _ j => j ≠ 0) fun i j => .int (i.fmod j)
abbrev rPowI : R2 := rI CPow fun i j => .int (i ^ j.toNat)
abbrev rLtI : R2 := rI0 fun i j => .bl (decide (i < j))
abbrev rLeI : R2 := rI0 fun i j => .bl (decide (i ≤ j))
abbrev rGtI : R2 := rI0 fun i j => .bl (decide (j < i))
abbrev rGeI : R2 := rI0 fun i j => .bl (decide (j ≤ i))
abbrev uNegI : V → Hp → VK → Prop := rU fun i => .int (-i)
def rIsNo : R2 := fun x y H Q => y = .non ∧ Q (.bl (decide (x = .non))) H
def rNotNo : R2 := fun x y H Q => y = .non ∧ Q (.bl (!decide (x = .non))) H
def rLenG (K : PySem.W.Frag) : List V → Hp → VK → Prop := fun xs H Q => ∃ p ys, xs = [.ref p] ∧ (SqL K H p ys ∨ SqT K H p ys) ∧ Q (.int ys.length) H
def rLstG (K : PySem.W.Frag) : List V → Hp → VK → Prop := fun xs H Q => ∃ p ys, xs = [.ref p] ∧ (SqL K H p ys ∨ SqT K H p ys) ∧ ∀ l, H l = none → Q (.ref l) (upd H l (.lst ys))
def rAbsG : List V → Hp → VK → Prop := fun xs H Q => ∃ i, xs = [.int i] ∧ Q (.int (if i < 0 then -i else i)) H
def rIntG : List V → Hp → VK → Prop := fun xs H Q => (∃ i, xs = [.int i] ∧ Q (.int i) H) ∨ ∃ k, xs = [.bl k] ∧ Q (.int (if k then 1 else 0)) H
/-- xs[i], i from the front -/
def rIxG (K : PySem.W.Frag) : R2 := fun x y H Q => ∃ p xs i v, x = .ref p ∧ y = .int ((i : Nat) : Int) ∧ SqL K H p xs ∧ xs[i]? = some v ∧ Q v H
def rIxGT (K : PySem.W.Frag) : R2 := fun x y H Q => ∃ p xs i v, x = .ref p ∧ y = .int ((i : Nat) : Int) ∧ SqT K H p xs ∧ xs[i]? = some v ∧ Q v H
/-- xs[i] = v, i from the front -/
def rSetG : TSet := fun o i v H Q => ∃ p xs j, o = .ref p ∧ i = .int ((j : Nat) : Int) ∧ H p = some (.lst xs) ∧ j < xs.length ∧ Q (upd H p (.lst (xs.set j v)))
section
variable {X : Cx}
theorem o_isN : OpR X (compareOp .Is) rIsNo := op_isN
theorem o_notN : OpR X (compareOp .IsNot) rNotNo := op_notN
theorem c_len : CallR X (.builtin "len") (rLenG X.K) := call_len_seq
theorem c_list : CallR X (.type "list") (rLstG X.K) := call_list_of
theorem c_abs : CallR X (.builtin "abs") rAbsG := call_abs
theorem c_int : CallR X (.type "int") rIntG := call_int1
theorem x_ix : IxR X (rIxG X.K) := by
  intro value slice pins s σ H x y v u Q I rx ry h hs
  obtain ⟨p, xs, i, z, e1, e2, hq, he, q⟩ := h
  exact ix_list value slice pins s σ H x y v u Q I rx ry ⟨p, xs, i, z, e1, e2, hq, atI_nat he, q⟩ hs
theorem x_ixT : IxR X (rIxGT X.K) := by
  intro value slice pins s σ H x y v u Q I rx ry h hs
  obtain ⟨p, xs, i, z, e1, e2, hq, he, q⟩ := h
  exact ix_tup value slice pins s σ H x y v u Q I rx ry ⟨p, xs, i, z, e1, e2, hq, atI_nat he, q⟩ hs
theorem ixN_of {n j : Nat} (h : j < n) : ixN n (j : Int) = some j := by
  unfold ixN
  rw [if_pos (by omega), if_pos (by omega)]
  rfl
theorem z_set : PSet X rSetG := by
  intro pins s σ H o i v ov iv u Q I ro ri rv h
  obtain ⟨p, xs, j, e1, e2, e3, e4, q⟩ := h
  exact set_list pins s σ H o i v ov iv u Q I ro ri rv ⟨p, xs, j, j, e1, e2, e3, ixN_of e4, q⟩
theorem z_get : PGet X (rIxG X.K) := by
  intro pins s σ H o i ov iv Q I ro ri h
  obtain ⟨p, xs, j, z, rfl, rfl, hq, he, q⟩ := h
  cases ro
  obtain ⟨t, rfl⟩ := ri
  obtain ⟨its, r, pl, hz⟩ := I.list hq
  obtain ⟨w, ew, rw'⟩ := r.get he
  have hn := line63
  have hj := (List.getElem?_eq_some_iff.mp he).1
  refine wpAny_getItem_list pl.isList (Int.natCast_nonneg _) (by omega) (x := w) ?_ ⟨z, H, I, rw', q⟩
  simpa using ew
/-! ### defs of the text -/
/-- where a def stands -/
def At (K : PySem.W.Frag) (mg : Str → Option Value) (x : Str) (st : Stmt) : Prop := ∃ f fd, Fun K x x st f fd ∧ mg x = some (.ref f)
/-- a def that keeps a promise -/
def Cal (P : Program) (w : World) (K : PySem.W.Frag) (mg : Str → Option Value) (base : Heap) (k : Nat) (x : Str) (sp : Sp) : Prop :=
  ∃ f fd ps, FnOk P w K mg base CX0 k f fd ps sp ∧ mg x = some (.ref f) ∧ PySem.W.keepIn K (.ref f) = true ∧ Binds K fd ps []
theorem g_call {k : Nat} {x : Str} {sp : Sp} {e : Expr} {es : List Expr} {p pos : Pos} {t : TA} (C : Cal X.prog X.w X.K X.mg X.base k x sp) (hr : Room k X.A) (hg : Gl X x) (ha : PA X (e :: es) t)
    (hdb : (x == ("__debug__" : Str)) = false := by decide) (he : starEach (e :: es) X.env = (false, eval e X.env) :: starEach es X.env := by rfl) (hpl : (backTo pos (starEach es X.env)).any (·.1) = false := by rfl) :
    PE X (.Call (.Name x p) (e :: es) [] pos) (tCall sp [] E0 t) := by
  obtain ⟨f, fd, ps, F, hm, kp, b⟩ := C
  exact pe_call F hr hg hm kp b .nil pass0 ha hdb he hpl
theorem g_call0 {k : Nat} {x : Str} {sp : Sp} {p pos : Pos} (C : Cal X.prog X.w X.K X.mg X.base k x sp) (hr : Room k X.A) (hg : Gl X x)
    (hdb : (x == ("__debug__" : Str)) = false := by decide) : PE X (.Call (.Name x p) [] [] pos) (tCall sp [] E0 tNil) := by
  obtain ⟨f, fd, ps, F, hm, kp, b⟩ := C
  exact pe_call0 F hr hg hm kp b .nil pass0 hdb
end
section
variable {P : Program} {w : World} {K : PySem.W.Frag} {mg : Str → Option Value} {base : Heap}
/-- THE RULE: a def by its reading -/
theorem cal_mk {x : Str} {st : Stmt} {N ps : List Str} {k : Nat} {sp : Sp} {t : TS} (A : At K mg x st) (S : FnScope N ps (defScope st)) (len : ∀ vs H Q E, sp vs H Q E → vs.length = ps.length)
    (hb : ∀ (kV doc pm : Value) (an : Option Addr) (cdv ct : Value) (us : List Value), us.length = ps.length → bindArgs (PySem.W.fnOf x x (defArgs st) (defBody st) (defScope st) .none kV doc pm an cdv ct) ⟨us, []⟩ = pure (ps.zip us))
    (hw : ∀ (f : Addr) (cdv : Value) (A : Around) (outer : List Env) (s : Shared) (H : Hp) (E : XK), Room k (A.deeper (envOfC x (defScope st) s.heap.objs.size f cdv)) →
      PSs (cxOf CX0 P w K mg base N x (defScope st) f cdv A outer s H E).nox (defBody st) t)
    (hd : ∀ vs H Q E, sp vs H Q E → t { nx := fun _ H' => Q .non H', rt := Q } (start N vs) H) : Cal P w K mg base (k + 1) x sp := by
  obtain ⟨f, fd, F, hm⟩ := A
  exact ⟨f, fd, ps, F.ok S len fun cdv A outer s H vs Q E hr h => ⟨t, hw f cdv A outer s H E hr, hd vs H Q E h⟩, hm, F.kp, F.binds hb⟩
/-- a seer within a def's body -/
theorem seer_of {CX : CXT} {N : List Str} {x : Str} {st : Stmt} {ps : List Str} {f : Addr} {cdv : Value} {A : Around} {outer : List Env} {s : Shared} {H : Hp} {E : XK} {k : Nat} (hs : base.NoSeer) (ht : P.given.tree = none) (S : FnScope N ps (defScope st))
    (hr : Room k (A.deeper (envOfC x (defScope st) s.heap.objs.size f cdv))) (hk : 32 ≤ k) : Seer (cxOf CX P w K mg base N x (defScope st) f cdv A outer s H E) := by
  refine ⟨hs, ht, ⟨_, outer, rfl, S.gen, S.co, rfl, rfl⟩, ?_⟩
  have := hr.dp
  show (A.deeper (envOfC x (defScope st) s.heap.objs.size f cdv)).depth + 100 < recursionLimit
  omega
end
/-! ### steps of a reading -/
section
variable {σ : L2.St} {H : Hp} {Q : VK} {D : Ends} {ta tb te : TE} {t u : TT} {x y v : V} {r : R2} {K : PySem.W.Frag}
theorem w_seq {t u : TS} (h : t { D with nx := u D } σ H) : tSeq t u D σ H := h
theorem w_next (h : D.nx σ H) : tNext D σ H := h
theorem w_asg {g : TG} (h : te σ H fun x H1 => g x σ H1 D.nx) : tAsg te g D σ H := h
theorem w_name {i : Nat} {R : L2.St → Hp → Prop} (h : R (σ.set i (some v)) H) : gName i v σ H R := h
theorem w_sub {to ti : TE} {z : TSet} {R : L2.St → Hp → Prop} (h : to σ H fun o H1 => ti σ H1 fun i H2 => z o i v H2 fun H3 => R σ H3) : gSub to ti z v σ H R := h
theorem w_ret (h : te σ H D.rt) : tRet te D σ H := h
theorem w_retN (h : D.rt .non H) : tRetN D σ H := h
theorem w_drop (h : te σ H fun _ H1 => D.nx σ H1) : tDrop te D σ H := h
theorem w_ifS {a b : TS} (h : t σ H fun c H1 => if c = true then a D σ H1 else b D σ H1) : tIfS t a b D σ H := h
theorem w_var {i : Nat} (h : σ[i]? = some (some v)) (q : Q v H) : tVar i σ H Q := ⟨v, h, q⟩
theorem w_c (q : Q v H) : tC v σ H Q := q
theorem w_op (h : ta σ H fun x H1 => tb σ H1 fun y H2 => r x y H2 Q) : tOp r ta tb σ H Q := h
theorem w_un {r : V → Hp → VK → Prop} (h : ta σ H fun x H1 => r x H1 Q) : tUn r ta σ H Q := h
theorem w_cb {r : List V → Hp → VK → Prop} {a : TA} (h : a σ H fun vs H1 => r vs H1 Q) : tCB r a σ H Q := h
theorem w_call {sp : Sp} {a : TA} {E : XK} (h : a σ H fun vs H1 => sp (vs ++ []) H1 Q E) : tCall sp [] E a σ H Q := h
theorem w_nil {R : List V → Hp → Prop} (h : R [] H) : tNil σ H R := h
theorem w_cons {a : TA} {R : List V → Hp → Prop} (h : ta σ H fun x H1 => a σ H1 fun xs H2 => R (x :: xs) H2) : tCons ta a σ H R := h
theorem w_test {R : Bool → Hp → Prop} (h : te σ H fun x H1 => ∃ k, x = .bl k ∧ R k H1) : tTest te σ H R := h
theorem w_tB {R : Bool → Hp → Prop} (h : te σ H fun x H1 => ∃ k, x = .bl k ∧ R k H1) : tB te σ H R := h
theorem w_k {k : Bool} {R : Bool → Hp → Prop} (h : R k H) : ∃ k', V.bl k = .bl k' ∧ R k' H := ⟨k, rfl, h⟩
theorem w_and {R : Bool → Hp → Prop} (h : t σ H fun c H1 => if c = true then u σ H1 R else R false H1) : tAnd t u σ H R := h
theorem w_or {R : Bool → Hp → Prop} (h : t σ H fun c H1 => if c = true then R true H1 else u σ H1 R) : tOr t u σ H R := h
theorem w_not {R : Bool → Hp → Prop} (h : t σ H fun c H1 => R (!c) H1) : tNot t σ H R := h
theorem w_ifE (h : t σ H fun c H1 => if c = true then ta σ H1 Q else tb σ H1 Q) : tIf t ta tb σ H Q := h
theorem w_yes {R : Bool → Hp → Prop} (h : R true H) : tYes σ H R := h
theorem w_add {i j : Int} (q : Q (.int (i + j)) H) : rI0 (fun i j => .int (i + j)) (.int i) (.int j) H Q := ⟨i, j, rfl, rfl, q⟩
theorem w_I0 {g : Int → Int → V} {i j : Int} (q : Q (g i j) H) : rI0 g (.int i) (.int j) H Q := ⟨i, j, rfl, rfl, q⟩
theorem w_I {C : Int → Int → Prop} {g : Int → Int → V} {i j : Int} (c : C i j) (q : Q (g i j) H) : rI C g (.int i) (.int j) H Q := ⟨i, j, rfl, rfl, c, q⟩
theorem w_U {g : Int → V} {i : Int} (q : Q (g i) H) : rU g (.int i) H Q := ⟨i, rfl, q⟩
theorem w_eqI {i j : Int} (q : Q (.bl (decide (i = j))) H) : rEq (.int i) (.int j) H Q := ⟨rfl, by
  have e : decide (V.int i = V.int j) = decide (i = j) := by simp
  rw [e]
  exact q⟩
theorem w_neI {i j : Int} (q : Q (.bl (decide (i ≠ j))) H) : rNe (.int i) (.int j) H Q := ⟨rfl, by
  have e : (!decide (V.int i = V.int j)) = decide (i ≠ j) := by simp
  rw [e]
  exact q⟩
theorem w_isN0 (q : Q (.bl true) H) : rIsNo .non .non H Q := ⟨rfl, q⟩
theorem w_isN1 (h : x ≠ .non) (q : Q (.bl false) H) : rIsNo x .non H Q := ⟨rfl, by rw [decide_eq_false h]; exact q⟩
theorem w_notN0 (q : Q (.bl false) H) : rNotNo .non .non H Q := ⟨rfl, q⟩
theorem w_notN1 (h : x ≠ .non) (q : Q (.bl true) H) : rNotNo x .non H Q := ⟨rfl, by rw [decide_eq_false h]; exact q⟩
theorem w_len {p : Addr} {xs : List V} (h : H p = some (.lst xs)) (q : Q (.int xs.length) H) : rLenG K [.ref p] H Q := ⟨p, xs, rfl, .inl (SqL.of h), q⟩
theorem w_abs {i : Int} (q : Q (.int (i.natAbs : Int)) H) : rAbsG [.int i] H Q := ⟨i, rfl, by
  have e : (if i < 0 then -i else i) = (i.natAbs : Int) := by split <;> omega
  rw [e]
  exact q⟩
theorem w_int {i : Int} (q : Q (.int i) H) : rIntG [.int i] H Q := .inl ⟨i, rfl, q⟩
theorem w_lst {p : Addr} {xs : List V} (h : H p = some (.lst xs)) (q : ∀ l, H l = none → Q (.ref l) (upd H l (.lst xs))) : rLstG K [.ref p] H Q := ⟨p, xs, rfl, .inl (SqL.of h), q⟩
theorem w_ix {p : Addr} {xs : List V} {i : Nat} (h : H p = some (.lst xs)) (e : xs[i]? = some v) (q : Q v H) : rIxG K (.ref p) (.int (i : Int)) H Q := ⟨p, xs, i, v, rfl, rfl, SqL.of h, e, q⟩
/-- an item of a row -/
theorem w_ixR {p : Addr} {r : Row} {i : Nat} {z : Int} (h : H p = some (.lst (r.map V.int))) (e : r[i]? = some z) (q : Q (.int z) H) : rIxG K (.ref p) (.int (i : Int)) H Q :=
  w_ix h (by rw [List.getElem?_map, e]; rfl) q
theorem w_set {p : Addr} {xs : List V} {j : Nat} {R : Hp → Prop} (h : H p = some (.lst xs)) (e : j < xs.length) (q : R (upd H p (.lst (xs.set j v)))) : rSetG (.ref p) (.int (j : Int)) v H R := ⟨p, xs, j, rfl, rfl, h, e, q⟩
theorem w_tt {A B : Prop} (h : A) : if true = true then A else B := iteT h
theorem w_ff {A B : Prop} (h : B) : if false = true then A else B := iteF h
theorem w_ite {c A B : Prop} [Decidable c] (h1 : c → A) (h2 : ¬ c → B) : if decide c = true then A else B := by
  by_cases h : c
  · rw [decide_eq_true h]
    exact iteT (h1 h)
  · rw [decide_eq_false h]
    exact iteF (h2 h)
theorem w_bite {c : Bool} {A B : Prop} (h1 : c = true → A) (h2 : c = false → B) : if c = true then A else B := by
  cases c with
  | true => exact iteT (h1 rfl)
  | false => exact iteF (h2 rfl)
theorem w_app {p : Addr} {xs : List V} (h : H p = some (.lst xs)) (hz : xs.length < 1000000) (q : Q .non (upd H p (.lst (xs ++ [v])))) : rAppend (.ref p) [v] H Q := ⟨p, xs, v, rfl, rfl, h, Nat.lt_of_lt_of_le hz (by decide), q⟩
theorem w_bm {T : String} {r : V → List V → Hp → VK → Prop} {to : TE} {a : TA} (h : to σ H fun x H1 => tyV K T x H1 ∧ a σ H1 fun xs H2 => r x xs H2 Q) : tBM K T r to a σ H Q := h
theorem w_tyL {p : Addr} {xs : List V} (h : H p = some (.lst xs)) : tyV K "list" (.ref p) H := .inl ⟨rfl, _, SqL.of h⟩
theorem w_popAt {p : Addr} {xs : List V} {i : Nat} (h : H p = some (.lst xs)) (hz : xs.length ≤ 1000000) (e : xs[i]? = some v) (q : Q v (upd H p (.lst (xs.eraseIdx i)))) : rPopAt (.ref p) [.int (i : Int)] H Q := by
  have hi := (List.getElem?_eq_some_iff.mp e).1
  refine ⟨p, xs, i, i, v, rfl, rfl, h, by omega, by omega, ?_, e, q⟩
  obtain ⟨h1, _⟩ := ixN_seq (ixN_of hi)
  exact h1
end
end G
end
section
set_option Elab.async false
set_option linter.all false
set_option maxRecDepth 100000
namespace G
open PySem L2 PyProof.Rows
/-! ### statements, with the ends written out -/
section
variable {σ : L2.St} {H : Hp} {Q : VK} {nx bk ct : L2.St → Hp → Prop} {rt : VK} {ta tb te : TE} {t u : TT} {x y v : V} {r : R2} {K : PySem.W.Frag}
theorem v_seq {t u : TS} (h : t ⟨u ⟨nx, rt, bk, ct⟩, rt, bk, ct⟩ σ H) : tSeq t u ⟨nx, rt, bk, ct⟩ σ H := h
theorem v_next (h : nx σ H) : tNext ⟨nx, rt, bk, ct⟩ σ H := h
theorem v_asg {g : TG} (h : te σ H fun x H1 => g x σ H1 nx) : tAsg te g ⟨nx, rt, bk, ct⟩ σ H := h
theorem v_ret (h : te σ H rt) : tRet te ⟨nx, rt, bk, ct⟩ σ H := h
theorem v_retN (h : rt .non H) : tRetN ⟨nx, rt, bk, ct⟩ σ H := h
theorem v_drop (h : te σ H fun _ H1 => nx σ H1) : tDrop te ⟨nx, rt, bk, ct⟩ σ H := h
theorem v_ifS {a b : TS} (h : t σ H fun c H1 => if c = true then a ⟨nx, rt, bk, ct⟩ σ H1 else b ⟨nx, rt, bk, ct⟩ σ H1) : tIfS t a b ⟨nx, rt, bk, ct⟩ σ H := h
theorem v_aug {i : Nat} {ti : TIp} (h : σ[i]? = some (some x)) (q : te σ H fun y H1 => ti x y H1 fun z H2 => nx (σ.set i (some z)) H2) : tAug i te ti ⟨nx, rt, bk, ct⟩ σ H := ⟨x, h, q⟩
theorem v_ip {f : Int → Int → Int} {i j : Int} (q : Q (.int (f i j)) H) : ipI f (.int i) (.int j) H Q := ⟨i, j, rfl, rfl, q⟩
theorem v_augS {to ti : TE} {tget : V → V → Hp → VK → Prop} {tip : TIp} {tset : TSet} (h : to σ H fun o H1 => ti σ H1 fun i H2 => tget o i H2 fun x H3 => te σ H3 fun y H4 => tip x y H4 fun z H5 => tset o i z H5 fun H6 => nx σ H6) : tAugS to ti te tget tip tset ⟨nx, rt, bk, ct⟩ σ H := h
theorem v_brk (h : bk σ H) : tBreak ⟨nx, rt, bk, ct⟩ σ H := h
theorem v_cont (h : ct σ H) : tCont ⟨nx, rt, bk, ct⟩ σ H := h
theorem v_for {wi : TI} {g : TG} {tb : TS} (h : wi σ H fun J H1 => ∃ W : Nat → Nat → L2.St → Hp → Prop, (∃ m, W 0 m σ H1) ∧ ∀ i m σ H, W i m σ H →
      (J.stop i H ∧ nx σ H) ∨ (J.go i H ∧ ∃ N : L2.St → Hp → Prop, (∀ σ' H', N σ' H' → ∃ m', m' < m ∧ W (i + 1) m' σ' H') ∧ ∀ x H', J.yld i H x H' → g x σ H' fun σ2 H2 => tb ⟨N, rt, nx, N⟩ σ2 H2)) : tFor wi g tb ⟨nx, rt, bk, ct⟩ σ H := h
theorem v_rng1 {a : TA} {R : It → Hp → Prop} (h : a σ H fun vs H1 => ∃ j : Int, vs = [.int j] ∧ -(2 ^ 62) ≤ j ∧ j < 2 ^ 62 ∧ R (Itr 0 j.toNat) H1) : iRng1 a σ H R := h
theorem v_rng2 {a : TA} {R : It → Hp → Prop} (h : a σ H fun vs H1 => ∃ i j : Int, vs = [.int i, .int j] ∧ (-(2 ^ 62) ≤ i ∧ i < 2 ^ 62 ∧ -(2 ^ 62) ≤ j ∧ j < 2 ^ 62) ∧ R (Itr i (j - i).toNat) H1) : iRng2 a σ H R := h
theorem v_rng1E {n : Nat} {R : It → Hp → Prop} (hz : n ≤ 1000000) (q : R (Itr 0 n) H) : ∃ j : Int, [V.int (n : Int)] = [.int j] ∧ -(2 ^ 62) ≤ j ∧ j < 2 ^ 62 ∧ R (Itr 0 j.toNat) H := ⟨n, rfl, by omega, by omega, q⟩
theorem v_rng2E {a b : Nat} {R : It → Hp → Prop} (h1 : a ≤ 1000000) (h2 : b ≤ 1000000) (q : R (Itr (a : Int) (b - a)) H) :
    ∃ i j : Int, [V.int (a : Int), V.int (b : Int)] = [.int i, .int j] ∧ (-(2 ^ 62) ≤ i ∧ i < 2 ^ 62 ∧ -(2 ^ 62) ≤ j ∧ j < 2 ^ 62) ∧ R (Itr i (j - i).toNat) H := by
  refine ⟨a, b, rfl, ⟨by omega, by omega, by omega, by omega⟩, ?_⟩
  have e : ((b : Int) - (a : Int)).toNat = b - a := by omega
  rw [e]
  exact q
theorem v_list {R : It → Hp → Prop} (h : te σ H fun x H1 => ∃ a, x = .ref a ∧ (∃ xs, SqL K H1 a xs) ∧ R (Itl K a) H1) : iList K te σ H R := h
theorem v_listE {p : Addr} {xs : List V} {R : It → Hp → Prop} (h : H p = some (.lst xs)) (q : R (Itl K p) H) : ∃ a, V.ref p = .ref a ∧ (∃ xs, SqL K H a xs) ∧ R (Itl K a) H := ⟨p, rfl, ⟨xs, SqL.of h⟩, q⟩
theorem v_sqE {p : Addr} {xs : List V} {R : It → Hp → Prop} (h : SqL K H p xs) (q : R (Itl K p) H) : ∃ a, V.ref p = .ref a ∧ (∃ xs, SqL K H a xs) ∧ R (Itl K a) H := ⟨p, rfl, ⟨xs, h⟩, q⟩
/-- for i in range(n) -/
theorem forR {n : Nat} {j : Nat} {tb : TS} (Pv : Nat → L2.St → Hp → Prop) (h0 : Pv 0 σ H) (hs : ∀ i σ H, i < n → Pv i σ H → tb ⟨Pv (i + 1), rt, nx, Pv (i + 1)⟩ (σ.set j (some (.int (i : Int)))) H) (hd : ∀ σ H, Pv n σ H → nx σ H) :
    ∃ W : Nat → Nat → L2.St → Hp → Prop, (∃ m, W 0 m σ H) ∧ ∀ i m σ H, W i m σ H →
      ((Itr 0 n).stop i H ∧ nx σ H) ∨ ((Itr 0 n).go i H ∧ ∃ N : L2.St → Hp → Prop, (∀ σ' H', N σ' H' → ∃ m', m' < m ∧ W (i + 1) m' σ' H') ∧ ∀ x H', (Itr 0 n).yld i H x H' → gName j x σ H' fun σ2 H2 => tb ⟨N, rt, nx, N⟩ σ2 H2) :=
  for_range (D := ⟨nx, rt, nx, nx⟩) (lo := 0) Pv h0 (fun i σ H hi p => by
    show tb ⟨Pv (i + 1), rt, nx, Pv (i + 1)⟩ (σ.set j (some (.int (0 + (i : Int))))) H
    rw [Int.zero_add]
    exact hs i σ H hi p) hd
/-- for i in range(a, b) -/
theorem forR2 {a n : Nat} {j : Nat} {tb : TS} (Pv : Nat → L2.St → Hp → Prop) (h0 : Pv 0 σ H) (hs : ∀ i σ H, i < n → Pv i σ H → tb ⟨Pv (i + 1), rt, nx, Pv (i + 1)⟩ (σ.set j (some (.int ((a + i : Nat) : Int)))) H) (hd : ∀ σ H, Pv n σ H → nx σ H) :
    ∃ W : Nat → Nat → L2.St → Hp → Prop, (∃ m, W 0 m σ H) ∧ ∀ i m σ H, W i m σ H →
      ((Itr (a : Int) n).stop i H ∧ nx σ H) ∨ ((Itr (a : Int) n).go i H ∧ ∃ N : L2.St → Hp → Prop, (∀ σ' H', N σ' H' → ∃ m', m' < m ∧ W (i + 1) m' σ' H') ∧ ∀ x H', (Itr (a : Int) n).yld i H x H' → gName j x σ H' fun σ2 H2 => tb ⟨N, rt, nx, N⟩ σ2 H2) :=
  for_range (D := ⟨nx, rt, nx, nx⟩) (lo := (a : Int)) Pv h0 (fun i σ H hi p => by
    have e := hs i σ H hi p
    rw [Int.natCast_add] at e
    exact e) hd
/-- for x in a list that stays -/
theorem forL {p : Addr} {xs : List V} {g : TG} {tb : TS} (Pv : Nat → L2.St → Hp → Prop) (h0 : Pv 0 σ H) (hl : ∀ i σ H, i ≤ xs.length → Pv i σ H → SqL K H p xs)
    (hs : ∀ i x σ H, xs[i]? = some x → Pv i σ H → g x σ H fun σ2 H2 => tb ⟨Pv (i + 1), rt, nx, Pv (i + 1)⟩ σ2 H2) (hd : ∀ σ H, Pv xs.length σ H → nx σ H) :
    ∃ W : Nat → Nat → L2.St → Hp → Prop, (∃ m, W 0 m σ H) ∧ ∀ i m σ H, W i m σ H →
      ((Itl K p).stop i H ∧ nx σ H) ∨ ((Itl K p).go i H ∧ ∃ N : L2.St → Hp → Prop, (∀ σ' H', N σ' H' → ∃ m', m' < m ∧ W (i + 1) m' σ' H') ∧ ∀ x H', (Itl K p).yld i H x H' → g x σ H' fun σ2 H2 => tb ⟨N, rt, nx, N⟩ σ2 H2) :=
  for_list (D := ⟨nx, rt, nx, nx⟩) Pv h0 hl hs hd
/-- while, by a word that falls -/
theorem v_while {c : TT} {tb : TS} (W : Nat → L2.St → Hp → Prop) (m0 : Nat) (h0 : W m0 σ H)
    (hs : ∀ m σ H, W m σ H → c σ H fun b H1 => if b = true then ∃ N : L2.St → Hp → Prop, (∀ σ' H', N σ' H' → ∃ m', m' < m ∧ W m' σ' H') ∧ tb ⟨N, rt, nx, N⟩ σ H1 else nx σ H1) : tWhile c tb ⟨nx, rt, bk, ct⟩ σ H := ⟨W, ⟨m0, h0⟩, hs⟩
/-! ### comprehensions -/
theorem v_lc {wi : TI} {g : TG} {tt : TT} {te : TE} {vs : List Nat} (h : wi σ H fun J H1 => ∀ D, H1 D = none → ∃ W : Nat → Nat → Hp → Prop, (∃ m, W 0 m (upd H1 D (.lst []))) ∧ ∀ i m H, W i m H →
  (J.stop i H ∧ Q (.ref D) H) ∨ (J.go i H ∧ ∃ Nx : Hp → Prop, (∀ H', Nx H' → ∃ m', m' < m ∧ W (i + 1) m' H') ∧ ∀ x H', J.yld i H x H' → g x (wipe σ vs) H' fun σ2 H2 => wipe σ2 vs = wipe σ vs ∧ tt σ2 H2 fun b H3 =>
    if b = true then te σ2 H3 fun y H4 => ∃ acc, H4 D = some (.lst acc) ∧ acc.length < sizeLine ∧ Nx (upd H4 D (.lst (acc ++ [y]))) else Nx H3)) : tLc wi g tt te vs σ H Q := h
/-- what a turn has behind it: the list so far, all else as it was -/
structure Lcw {β : Type} [Rep β] (H : Hp) (M : Addr → Prop) (f : Nat → β) (D : Addr) (i : Nat) (H' : Hp) : Prop where
  s : Same H H'
  n : H D = none
  l : ∃ xs, H' D = some (.lst xs) ∧ All2 (rep (off H' (wth M D))) xs ((List.range i).map f)
theorem Lcw.snoc {β : Type} [Rep β] {H : Hp} {M : Addr → Prop} {f : Nat → β} {D : Addr} {i : Nat} {H1 H2 : Hp} {v : V} (L : Lcw H M f D i H1) (hz : i < 1000000) (s : Same H1 H2) (r : rep (off H2 (wth M D)) v (f i)) :
    ∃ acc, H2 D = some (.lst acc) ∧ acc.length < sizeLine ∧ Lcw H M f D (i + 1) (upd H2 D (.lst (acc ++ [v]))) := by
  obtain ⟨xs, e, a⟩ := L.l
  have hl := a.len
  rw [List.length_map, List.length_range] at hl
  refine ⟨xs, s _ _ e, Nat.lt_of_lt_of_le (hl ▸ hz) (by decide), same_mut (L.s.trans s) L.n, L.n, _, upd_same, ?_⟩
  rw [off_upd wth_l, List.range_succ, List.map_append]
  exact (all2_mono (off_mono s) a).snoc r
theorem Lcw.start {β : Type} [Rep β] {H : Hp} {M : Addr → Prop} {f : Nat → β} {D : Addr} (n : H D = none) : Lcw H M f D 0 (upd H D (.lst [])) := ⟨same_new n, n, [], upd_same, trivial⟩
theorem Lcw.off {β : Type} [Rep β] {H : Hp} {M : Addr → Prop} {f : Nat → β} {D : Addr} {i : Nat} {H' : Hp} (L : Lcw H M f D i H') : Same (off H M) (off H' (wth M D)) := off_imp L.s fun a h => by
  rcases h with h | h
  · exact .inl h
  · exact .inr (h ▸ L.n)
/-- [e for i in range(n)], e by its value; M: what no item may lean on -/
theorem lcR {β : Type} [Rep β] {n : Nat} {j : Nat} {te : TE} {vs : List Nat} (M : Addr → Prop) (f : Nat → β) (hz : n ≤ 1000000) (hM : ∀ a, M a → dom H a) (hw : ∀ x, wipe ((wipe σ vs).set j (some x)) vs = wipe σ vs)
    (he : ∀ (i : Nat) H1 M1, i < n → Same H H1 → Same (off H M) (off H1 M1) → (∀ a, M1 a → dom H1 a) → ∀ R : VK, (∀ v H2, Same H1 H2 → rep (off H2 M1) v (f i) → R v H2) → te ((wipe σ vs).set j (some (.int (i : Int)))) H1 R)
    (hd : NewL M H ((List.range n).map f) Q) : ∀ D, H D = none → ∃ W : Nat → Nat → Hp → Prop, (∃ m, W 0 m (upd H D (.lst []))) ∧ ∀ i m H, W i m H →
      ((Itr 0 n).stop i H ∧ Q (.ref D) H) ∨ ((Itr 0 n).go i H ∧ ∃ Nx : Hp → Prop, (∀ H', Nx H' → ∃ m', m' < m ∧ W (i + 1) m' H') ∧ ∀ x H', (Itr 0 n).yld i H x H' → gName j x (wipe σ vs) H' fun σ2 H2 => wipe σ2 vs = wipe σ vs ∧ tYes σ2 H2 fun b H3 =>
        if b = true then te σ2 H3 fun y H4 => ∃ acc, H4 D = some (.lst acc) ∧ acc.length < sizeLine ∧ Nx (upd H4 D (.lst (acc ++ [y]))) else Nx H3) := fun D hD =>
  lc_range (lo := 0) (n := n) (Lcw H M f D) (.start hD) (fun i H1 hi L => by
    refine ⟨hw _, ?_⟩
    have e0 : (0 : Int) + (i : Int) = (i : Int) := Int.zero_add _
    rw [e0]
    refine w_yes ?_
    refine iteT ?_
    refine he i H1 (wth M D) hi L.s L.off (fun a h => ?_) _ fun v H2 s r => L.snoc (by omega) s r
    rcases h with h | h
    · exact dom_same L.s (hM a h)
    · obtain ⟨xs, e, _⟩ := L.l
      exact h ▸ dom_of e) fun H' L => by
    obtain ⟨xs, e, a⟩ := L.l
    exact hd D xs H' L.s L.n e a
/-- [e for x in list] -/
theorem lcL {β : Type} [Rep β] {p : Addr} {xs : List V} {j : Nat} {te : TE} {vs : List Nat} (M : Addr → Prop) (f : Nat → β) (hx : SqL K H p xs) (hz : xs.length ≤ 1000000) (hM : ∀ a, M a → dom H a) (hw : ∀ x, wipe ((wipe σ vs).set j (some x)) vs = wipe σ vs)
    (he : ∀ (i : Nat) x H1 M1, xs[i]? = some x → Same H H1 → Same (off H M) (off H1 M1) → (∀ a, M1 a → dom H1 a) → ∀ R : VK, (∀ v H2, Same H1 H2 → rep (off H2 M1) v (f i) → R v H2) → te ((wipe σ vs).set j (some x)) H1 R)
    (hd : NewL M H ((List.range xs.length).map f) Q) : ∀ D, H D = none → ∃ W : Nat → Nat → Hp → Prop, (∃ m, W 0 m (upd H D (.lst []))) ∧ ∀ i m H, W i m H →
      ((Itl K p).stop i H ∧ Q (.ref D) H) ∨ ((Itl K p).go i H ∧ ∃ Nx : Hp → Prop, (∀ H', Nx H' → ∃ m', m' < m ∧ W (i + 1) m' H') ∧ ∀ x H', (Itl K p).yld i H x H' → gName j x (wipe σ vs) H' fun σ2 H2 => wipe σ2 vs = wipe σ vs ∧ tYes σ2 H2 fun b H3 =>
        if b = true then te σ2 H3 fun y H4 => ∃ acc, H4 D = some (.lst acc) ∧ acc.length < sizeLine ∧ Nx (upd H4 D (.lst (acc ++ [y]))) else Nx H3) := fun D hD =>
  lc_list (xs := xs) (Lcw H M f D) (.start hD) (fun i H1 _ L => L.s.seq hx) (fun i x H1 hi L => by
    refine ⟨hw _, ?_⟩
    refine w_yes ?_
    refine iteT ?_
    refine he i x H1 (wth M D) hi L.s L.off (fun a h => ?_) _ fun v H2 s r => L.snoc (by have := (List.getElem?_eq_some_iff.mp hi).1; omega) s r
    rcases h with h | h
    · exact dom_same L.s (hM a h)
    · obtain ⟨ys, e, _⟩ := L.l
      exact h ▸ dom_of e) fun H' L => by
    obtain ⟨ys, e, a⟩ := L.l
    exact hd D ys H' L.s L.n e a
end
/-! ### places -/
theorem tv_0 {v : V} {σ : L2.St} {H : Hp} {Q : VK} (q : Q v H) : tVar 0 (some v :: σ) H Q := ⟨v, rfl, q⟩
theorem nv_0 {a : Option V} {v : V} {σ : L2.St} {H : Hp} {R : L2.St → Hp → Prop} (h : R (some v :: σ) H) : gName 0 v (a :: σ) H R := h
theorem av_0 {x : V} {σ : L2.St} {H : Hp} {te : TE} {ti : TIp} {nx bk ct : L2.St → Hp → Prop} {rt : VK} (q : te (some x :: σ) H fun y H1 => ti x y H1 fun z H2 => nx (some z :: σ) H2) : tAug 0 te ti ⟨nx, rt, bk, ct⟩ (some x :: σ) H := ⟨x, rfl, q⟩
theorem tv_1 {a0 : Option V} {v : V} {σ : L2.St} {H : Hp} {Q : VK} (q : Q v H) : tVar 1 (a0 :: some v :: σ) H Q := ⟨v, rfl, q⟩
theorem nv_1 {a0 : Option V} {a : Option V} {v : V} {σ : L2.St} {H : Hp} {R : L2.St → Hp → Prop} (h : R (a0 :: some v :: σ) H) : gName 1 v (a0 :: a :: σ) H R := h
theorem av_1 {a0 : Option V} {x : V} {σ : L2.St} {H : Hp} {te : TE} {ti : TIp} {nx bk ct : L2.St → Hp → Prop} {rt : VK} (q : te (a0 :: some x :: σ) H fun y H1 => ti x y H1 fun z H2 => nx (a0 :: some z :: σ) H2) : tAug 1 te ti ⟨nx, rt, bk, ct⟩ (a0 :: some x :: σ) H := ⟨x, rfl, q⟩
theorem tv_2 {a0 a1 : Option V} {v : V} {σ : L2.St} {H : Hp} {Q : VK} (q : Q v H) : tVar 2 (a0 :: a1 :: some v :: σ) H Q := ⟨v, rfl, q⟩
theorem nv_2 {a0 a1 : Option V} {a : Option V} {v : V} {σ : L2.St} {H : Hp} {R : L2.St → Hp → Prop} (h : R (a0 :: a1 :: some v :: σ) H) : gName 2 v (a0 :: a1 :: a :: σ) H R := h
theorem av_2 {a0 a1 : Option V} {x : V} {σ : L2.St} {H : Hp} {te : TE} {ti : TIp} {nx bk ct : L2.St → Hp → Prop} {rt : VK} (q : te (a0 :: a1 :: some x :: σ) H fun y H1 => ti x y H1 fun z H2 => nx (a0 :: a1 :: some z :: σ) H2) : tAug 2 te ti ⟨nx, rt, bk, ct⟩ (a0 :: a1 :: some x :: σ) H := ⟨x, rfl, q⟩
theorem tv_3 {a0 a1 a2 : Option V} {v : V} {σ : L2.St} {H : Hp} {Q : VK} (q : Q v H) : tVar 3 (a0 :: a1 :: a2 :: some v :: σ) H Q := ⟨v, rfl, q⟩
theorem nv_3 {a0 a1 a2 : Option V} {a : Option V} {v : V} {σ : L2.St} {H : Hp} {R : L2.St → Hp → Prop} (h : R (a0 :: a1 :: a2 :: some v :: σ) H) : gName 3 v (a0 :: a1 :: a2 :: a :: σ) H R := h
theorem av_3 {a0 a1 a2 : Option V} {x : V} {σ : L2.St} {H : Hp} {te : TE} {ti : TIp} {nx bk ct : L2.St → Hp → Prop} {rt : VK} (q : te (a0 :: a1 :: a2 :: some x :: σ) H fun y H1 => ti x y H1 fun z H2 => nx (a0 :: a1 :: a2 :: some z :: σ) H2) : tAug 3 te ti ⟨nx, rt, bk, ct⟩ (a0 :: a1 :: a2 :: some x :: σ) H := ⟨x, rfl, q⟩
theorem tv_4 {a0 a1 a2 a3 : Option V} {v : V} {σ : L2.St} {H : Hp} {Q : VK} (q : Q v H) : tVar 4 (a0 :: a1 :: a2 :: a3 :: some v :: σ) H Q := ⟨v, rfl, q⟩
theorem nv_4 {a0 a1 a2 a3 : Option V} {a : Option V} {v : V} {σ : L2.St} {H : Hp} {R : L2.St → Hp → Prop} (h : R (a0 :: a1 :: a2 :: a3 :: some v :: σ) H) : gName 4 v (a0 :: a1 :: a2 :: a3 :: a :: σ) H R := h
theorem av_4 {a0 a1 a2 a3 : Option V} {x : V} {σ : L2.St} {H : Hp} {te : TE} {ti : TIp} {nx bk ct : L2.St → Hp → Prop} {rt : VK} (q : te (a0 :: a1 :: a2 :: a3 :: some x :: σ) H fun y H1 => ti x y H1 fun z H2 => nx (a0 :: a1 :: a2 :: a3 :: some z :: σ) H2) : tAug 4 te ti ⟨nx, rt, bk, ct⟩ (a0 :: a1 :: a2 :: a3 :: some x :: σ) H := ⟨x, rfl, q⟩
theorem tv_5 {a0 a1 a2 a3 a4 : Option V} {v : V} {σ : L2.St} {H : Hp} {Q : VK} (q : Q v H) : tVar 5 (a0 :: a1 :: a2 :: a3 :: a4 :: some v :: σ) H Q := ⟨v, rfl, q⟩
theorem nv_5 {a0 a1 a2 a3 a4 : Option V} {a : Option V} {v : V} {σ : L2.St} {H : Hp} {R : L2.St → Hp → Prop} (h : R (a0 :: a1 :: a2 :: a3 :: a4 :: some v :: σ) H) : gName 5 v (a0 :: a1 :: a2 :: a3 :: a4 :: a :: σ) H R := h
theorem av_5 {a0 a1 a2 a3 a4 : Option V} {x : V} {σ : L2.St} {H : Hp} {te : TE} {ti : TIp} {nx bk ct : L2.St → Hp → Prop} {rt : VK} (q : te (a0 :: a1 :: a2 :: a3 :: a4 :: some x :: σ) H fun y H1 => ti x y H1 fun z H2 => nx (a0 :: a1 :: a2 :: a3 :: a4 :: some z :: σ) H2) : tAug 5 te ti ⟨nx, rt, bk, ct⟩ (a0 :: a1 :: a2 :: a3 :: a4 :: some x :: σ) H := ⟨x, rfl, q⟩
theorem tv_6 {a0 a1 a2 a3 a4 a5 : Option V} {v : V} {σ : L2.St} {H : Hp} {Q : VK} (q : Q v H) : tVar 6 (a0 :: a1 :: a2 :: a3 :: a4 :: a5 :: some v :: σ) H Q := ⟨v, rfl, q⟩
theorem nv_6 {a0 a1 a2 a3 a4 a5 : Option V} {a : Option V} {v : V} {σ : L2.St} {H : Hp} {R : L2.St → Hp → Prop} (h : R (a0 :: a1 :: a2 :: a3 :: a4 :: a5 :: some v :: σ) H) : gName 6 v (a0 :: a1 :: a2 :: a3 :: a4 :: a5 :: a :: σ) H R := h
theorem av_6 {a0 a1 a2 a3 a4 a5 : Option V} {x : V} {σ : L2.St} {H : Hp} {te : TE} {ti : TIp} {nx bk ct : L2.St → Hp → Prop} {rt : VK} (q : te (a0 :: a1 :: a2 :: a3 :: a4 :: a5 :: some x :: σ) H fun y H1 => ti x y H1 fun z H2 => nx (a0 :: a1 :: a2 :: a3 :: a4 :: a5 :: some z :: σ) H2) : tAug 6 te ti ⟨nx, rt, bk, ct⟩ (a0 :: a1 :: a2 :: a3 :: a4 :: a5 :: some x :: σ) H := ⟨x, rfl, q⟩
theorem tv_7 {a0 a1 a2 a3 a4 a5 a6 : Option V} {v : V} {σ : L2.St} {H : Hp} {Q : VK} (q : Q v H) : tVar 7 (a0 :: a1 :: a2 :: a3 :: a4 :: a5 :: a6 :: some v :: σ) H Q := ⟨v, rfl, q⟩
theorem nv_7 {a0 a1 a2 a3 a4 a5 a6 : Option V} {a : Option V} {v : V} {σ : L2.St} {H : Hp} {R : L2.St → Hp → Prop} (h : R (a0 :: a1 :: a2 :: a3 :: a4 :: a5 :: a6 :: some v :: σ) H) : gName 7 v (a0 :: a1 :: a2 :: a3 :: a4 :: a5 :: a6 :: a :: σ) H R := h
theorem av_7 {a0 a1 a2 a3 a4 a5 a6 : Option V} {x : V} {σ : L2.St} {H : Hp} {te : TE} {ti : TIp} {nx bk ct : L2.St → Hp → Prop} {rt : VK} (q : te (a0 :: a1 :: a2 :: a3 :: a4 :: a5 :: a6 :: some x :: σ) H fun y H1 => ti x y H1 fun z H2 => nx (a0 :: a1 :: a2 :: a3 :: a4 :: a5 :: a6 :: some z :: σ) H2) : tAug 7 te ti ⟨nx, rt, bk, ct⟩ (a0 :: a1 :: a2 :: a3 :: a4 :: a5 :: a6 :: some x :: σ) H := ⟨x, rfl, q⟩
theorem tv_8 {a0 a1 a2 a3 a4 a5 a6 a7 : Option V} {v : V} {σ : L2.St} {H : Hp} {Q : VK} (q : Q v H) : tVar 8 (a0 :: a1 :: a2 :: a3 :: a4 :: a5 :: a6 :: a7 :: some v :: σ) H Q := ⟨v, rfl, q⟩
theorem nv_8 {a0 a1 a2 a3 a4 a5 a6 a7 : Option V} {a : Option V} {v : V} {σ : L2.St} {H : Hp} {R : L2.St → Hp → Prop} (h : R (a0 :: a1 :: a2 :: a3 :: a4 :: a5 :: a6 :: a7 :: some v :: σ) H) : gName 8 v (a0 :: a1 :: a2 :: a3 :: a4 :: a5 :: a6 :: a7 :: a :: σ) H R := h
theorem av_8 {a0 a1 a2 a3 a4 a5 a6 a7 : Option V} {x : V} {σ : L2.St} {H : Hp} {te : TE} {ti : TIp} {nx bk ct : L2.St → Hp → Prop} {rt : VK} (q : te (a0 :: a1 :: a2 :: a3 :: a4 :: a5 :: a6 :: a7 :: some x :: σ) H fun y H1 => ti x y H1 fun z H2 => nx (a0 :: a1 :: a2 :: a3 :: a4 :: a5 :: a6 :: a7 :: some z :: σ) H2) : tAug 8 te ti ⟨nx, rt, bk, ct⟩ (a0 :: a1 :: a2 :: a3 :: a4 :: a5 :: a6 :: a7 :: some x :: σ) H := ⟨x, rfl, q⟩
theorem tv_9 {a0 a1 a2 a3 a4 a5 a6 a7 a8 : Option V} {v : V} {σ : L2.St} {H : Hp} {Q : VK} (q : Q v H) : tVar 9 (a0 :: a1 :: a2 :: a3 :: a4 :: a5 :: a6 :: a7 :: a8 :: some v :: σ) H Q := ⟨v, rfl, q⟩
theorem nv_9 {a0 a1 a2 a3 a4 a5 a6 a7 a8 : Option V} {a : Option V} {v : V} {σ : L2.St} {H : Hp} {R : L2.St → Hp → Prop} (h : R (a0 :: a1 :: a2 :: a3 :: a4 :: a5 :: a6 :: a7 :: a8 :: some v :: σ) H) : gName 9 v (a0 :: a1 :: a2 :: a3 :: a4 :: a5 :: a6 :: a7 :: a8 :: a :: σ) H R := h
theorem av_9 {a0 a1 a2 a3 a4 a5 a6 a7 a8 : Option V} {x : V} {σ : L2.St} {H : Hp} {te : TE} {ti : TIp} {nx bk ct : L2.St → Hp → Prop} {rt : VK} (q : te (a0 :: a1 :: a2 :: a3 :: a4 :: a5 :: a6 :: a7 :: a8 :: some x :: σ) H fun y H1 => ti x y H1 fun z H2 => nx (a0 :: a1 :: a2 :: a3 :: a4 :: a5 :: a6 :: a7 :: a8 :: some z :: σ) H2) : tAug 9 te ti ⟨nx, rt, bk, ct⟩ (a0 :: a1 :: a2 :: a3 :: a4 :: a5 :: a6 :: a7 :: a8 :: some x :: σ) H := ⟨x, rfl, q⟩
theorem tv_10 {a0 a1 a2 a3 a4 a5 a6 a7 a8 a9 : Option V} {v : V} {σ : L2.St} {H : Hp} {Q : VK} (q : Q v H) : tVar 10 (a0 :: a1 :: a2 :: a3 :: a4 :: a5 :: a6 :: a7 :: a8 :: a9 :: some v :: σ) H Q := ⟨v, rfl, q⟩
theorem nv_10 {a0 a1 a2 a3 a4 a5 a6 a7 a8 a9 : Option V} {a : Option V} {v : V} {σ : L2.St} {H : Hp} {R : L2.St → Hp → Prop} (h : R (a0 :: a1 :: a2 :: a3 :: a4 :: a5 :: a6 :: a7 :: a8 :: a9 :: some v :: σ) H) : gName 10 v (a0 :: a1 :: a2 :: a3 :: a4 :: a5 :: a6 :: a7 :: a8 :: a9 :: a :: σ) H R := h
theorem av_10 {a0 a1 a2 a3 a4 a5 a6 a7 a8 a9 : Option V} {x : V} {σ : L2.St} {H : Hp} {te : TE} {ti : TIp} {nx bk ct : L2.St → Hp → Prop} {rt : VK} (q : te (a0 :: a1 :: a2 :: a3 :: a4 :: a5 :: a6 :: a7 :: a8 :: a9 :: some x :: σ) H fun y H1 => ti x y H1 fun z H2 => nx (a0 :: a1 :: a2 :: a3 :: a4 :: a5 :: a6 :: a7 :: a8 :: a9 :: some z :: σ) H2) : tAug 10 te ti ⟨nx, rt, bk, ct⟩ (a0 :: a1 :: a2 :: a3 :: a4 :: a5 :: a6 :: a7 :: a8 :: a9 :: some x :: σ) H := ⟨x, rfl, q⟩
theorem tv_11 {a0 a1 a2 a3 a4 a5 a6 a7 a8 a9 a10 : Option V} {v : V} {σ : L2.St} {H : Hp} {Q : VK} (q : Q v H) : tVar 11 (a0 :: a1 :: a2 :: a3 :: a4 :: a5 :: a6 :: a7 :: a8 :: a9 :: a10 :: some v :: σ) H Q := ⟨v, rfl, q⟩
theorem nv_11 {a0 a1 a2 a3 a4 a5 a6 a7 a8 a9 a10 : Option V} {a : Option V} {v : V} {σ : L2.St} {H : Hp} {R : L2.St → Hp → Prop} (h : R (a0 :: a1 :: a2 :: a3 :: a4 :: a5 :: a6 :: a7 :: a8 :: a9 :: a10 :: some v :: σ) H) : gName 11 v (a0 :: a1 :: a2 :: a3 :: a4 :: a5 :: a6 :: a7 :: a8 :: a9 :: a10 :: a :: σ) H R := h
theorem av_11 {a0 a1 a2 a3 a4 a5 a6 a7 a8 a9 a10 : Option V} {x : V} {σ : L2.St} {H : Hp} {te : TE} {ti : TIp} {nx bk ct : L2.St → Hp → Prop} {rt : VK} (q : te (a0 :: a1 :: a2 :: a3 :: a4 :: a5 :: a6 :: a7 :: a8 :: a9 :: a10 :: some x :: σ) H fun y H1 => ti x y H1 fun z H2 => nx (a0 :: a1 :: a2 :: a3 :: a4 :: a5 :: a6 :: a7 :: a8 :: a9 :: a10 :: some z :: σ) H2) : tAug 11 te ti ⟨nx, rt, bk, ct⟩ (a0 :: a1 :: a2 :: a3 :: a4 :: a5 :: a6 :: a7 :: a8 :: a9 :: a10 :: some x :: σ) H := ⟨x, rfl, q⟩
theorem tv_12 {a0 a1 a2 a3 a4 a5 a6 a7 a8 a9 a10 a11 : Option V} {v : V} {σ : L2.St} {H : Hp} {Q : VK} (q : Q v H) : tVar 12 (a0 :: a1 :: a2 :: a3 :: a4 :: a5 :: a6 :: a7 :: a8 :: a9 :: a10 :: a11 :: some v :: σ) H Q := ⟨v, rfl, q⟩
theorem nv_12 {a0 a1 a2 a3 a4 a5 a6 a7 a8 a9 a10 a11 : Option V} {a : Option V} {v : V} {σ : L2.St} {H : Hp} {R : L2.St → Hp → Prop} (h : R (a0 :: a1 :: a2 :: a3 :: a4 :: a5 :: a6 :: a7 :: a8 :: a9 :: a10 :: a11 :: some v :: σ) H) : gName 12 v (a0 :: a1 :: a2 :: a3 :: a4 :: a5 :: a6 :: a7 :: a8 :: a9 :: a10 :: a11 :: a :: σ) H R := h
theorem av_12 {a0 a1 a2 a3 a4 a5 a6 a7 a8 a9 a10 a11 : Option V} {x : V} {σ : L2.St} {H : Hp} {te : TE} {ti : TIp} {nx bk ct : L2.St → Hp → Prop} {rt : VK} (q : te (a0 :: a1 :: a2 :: a3 :: a4 :: a5 :: a6 :: a7 :: a8 :: a9 :: a10 :: a11 :: some x :: σ) H fun y H1 => ti x y H1 fun z H2 => nx (a0 :: a1 :: a2 :: a3 :: a4 :: a5 :: a6 :: a7 :: a8 :: a9 :: a10 :: a11 :: some z :: σ) H2) : tAug 12 te ti ⟨nx, rt, bk, ct⟩ (a0 :: a1 :: a2 :: a3 :: a4 :: a5 :: a6 :: a7 :: a8 :: a9 :: a10 :: a11 :: some x :: σ) H := ⟨x, rfl, q⟩
theorem tv_13 {a0 a1 a2 a3 a4 a5 a6 a7 a8 a9 a10 a11 a12 : Option V} {v : V} {σ : L2.St} {H : Hp} {Q : VK} (q : Q v H) : tVar 13 (a0 :: a1 :: a2 :: a3 :: a4 :: a5 :: a6 :: a7 :: a8 :: a9 :: a10 :: a11 :: a12 :: some v :: σ) H Q := ⟨v, rfl, q⟩
theorem nv_13 {a0 a1 a2 a3 a4 a5 a6 a7 a8 a9 a10 a11 a12 : Option V} {a : Option V} {v : V} {σ : L2.St} {H : Hp} {R : L2.St → Hp → Prop} (h : R (a0 :: a1 :: a2 :: a3 :: a4 :: a5 :: a6 :: a7 :: a8 :: a9 :: a10 :: a11 :: a12 :: some v :: σ) H) : gName 13 v (a0 :: a1 :: a2 :: a3 :: a4 :: a5 :: a6 :: a7 :: a8 :: a9 :: a10 :: a11 :: a12 :: a :: σ) H R := h
theorem av_13 {a0 a1 a2 a3 a4 a5 a6 a7 a8 a9 a10 a11 a12 : Option V} {x : V} {σ : L2.St} {H : Hp} {te : TE} {ti : TIp} {nx bk ct : L2.St → Hp → Prop} {rt : VK} (q : te (a0 :: a1 :: a2 :: a3 :: a4 :: a5 :: a6 :: a7 :: a8 :: a9 :: a10 :: a11 :: a12 :: some x :: σ) H fun y H1 => ti x y H1 fun z H2 => nx (a0 :: a1 :: a2 :: a3 :: a4 :: a5 :: a6 :: a7 :: a8 :: a9 :: a10 :: a11 :: a12 :: some z :: σ) H2) : tAug 13 te ti ⟨nx, rt, bk, ct⟩ (a0 :: a1 :: a2 :: a3 :: a4 :: a5 :: a6 :: a7 :: a8 :: a9 :: a10 :: a11 :: a12 :: some x :: σ) H := ⟨x, rfl, q⟩
theorem tv_14 {a0 a1 a2 a3 a4 a5 a6 a7 a8 a9 a10 a11 a12 a13 : Option V} {v : V} {σ : L2.St} {H : Hp} {Q : VK} (q : Q v H) : tVar 14 (a0 :: a1 :: a2 :: a3 :: a4 :: a5 :: a6 :: a7 :: a8 :: a9 :: a10 :: a11 :: a12 :: a13 :: some v :: σ) H Q := ⟨v, rfl, q⟩
theorem nv_14 {a0 a1 a2 a3 a4 a5 a6 a7 a8 a9 a10 a11 a12 a13 : Option V} {a : Option V} {v : V} {σ : L2.St} {H : Hp} {R : L2.St → Hp → Prop} (h : R (a0 :: a1 :: a2 :: a3 :: a4 :: a5 :: a6 :: a7 :: a8 :: a9 :: a10 :: a11 :: a12 :: a13 :: some v :: σ) H) : gName 14 v (a0 :: a1 :: a2 :: a3 :: a4 :: a5 :: a6 :: a7 :: a8 :: a9 :: a10 :: a11 :: a12 :: a13 :: a :: σ) H R := h
theorem av_14 {a0 a1 a2 a3 a4 a5 a6 a7 a8 a9 a10 a11 a12 a13 : Option V} {x : V} {σ : L2.St} {H : Hp} {te : TE} {ti : TIp} {nx bk ct : L2.St → Hp → Prop} {rt : VK} (q : te (a0 :: a1 :: a2 :: a3 :: a4 :: a5 :: a6 :: a7 :: a8 :: a9 :: a10 :: a11 :: a12 :: a13 :: some x :: σ) H fun y H1 => ti x y H1 fun z H2 => nx (a0 :: a1 :: a2 :: a3 :: a4 :: a5 :: a6 :: a7 :: a8 :: a9 :: a10 :: a11 :: a12 :: a13 :: some z :: σ) H2) : tAug 14 te ti ⟨nx, rt, bk, ct⟩ (a0 :: a1 :: a2 :: a3 :: a4 :: a5 :: a6 :: a7 :: a8 :: a9 :: a10 :: a11 :: a12 :: a13 :: some x :: σ) H := ⟨x, rfl, q⟩
theorem tv_15 {a0 a1 a2 a3 a4 a5 a6 a7 a8 a9 a10 a11 a12 a13 a14 : Option V} {v : V} {σ : L2.St} {H : Hp} {Q : VK} (q : Q v H) : tVar 15 (a0 :: a1 :: a2 :: a3 :: a4 :: a5 :: a6 :: a7 :: a8 :: a9 :: a10 :: a11 :: a12 :: a13 :: a14 :: some v :: σ) H Q := ⟨v, rfl, q⟩
theorem nv_15 {a0 a1 a2 a3 a4 a5 a6 a7 a8 a9 a10 a11 a12 a13 a14 : Option V} {a : Option V} {v : V} {σ : L2.St} {H : Hp} {R : L2.St → Hp → Prop} (h : R (a0 :: a1 :: a2 :: a3 :: a4 :: a5 :: a6 :: a7 :: a8 :: a9 :: a10 :: a11 :: a12 :: a13 :: a14 :: some v :: σ) H) : gName 15 v (a0 :: a1 :: a2 :: a3 :: a4 :: a5 :: a6 :: a7 :: a8 :: a9 :: a10 :: a11 :: a12 :: a13 :: a14 :: a :: σ) H R := h
theorem av_15 {a0 a1 a2 a3 a4 a5 a6 a7 a8 a9 a10 a11 a12 a13 a14 : Option V} {x : V} {σ : L2.St} {H : Hp} {te : TE} {ti : TIp} {nx bk ct : L2.St → Hp → Prop} {rt : VK} (q : te (a0 :: a1 :: a2 :: a3 :: a4 :: a5 :: a6 :: a7 :: a8 :: a9 :: a10 :: a11 :: a12 :: a13 :: a14 :: some x :: σ) H fun y H1 => ti x y H1 fun z H2 => nx (a0 :: a1 :: a2 :: a3 :: a4 :: a5 :: a6 :: a7 :: a8 :: a9 :: a10 :: a11 :: a12 :: a13 :: a14 :: some z :: σ) H2) : tAug 15 te ti ⟨nx, rt, bk, ct⟩ (a0 :: a1 :: a2 :: a3 :: a4 :: a5 :: a6 :: a7 :: a8 :: a9 :: a10 :: a11 :: a12 :: a13 :: a14 :: some x :: σ) H := ⟨x, rfl, q⟩
theorem row_at {r : Row} {i : Nat} {x : V} (h : (r.map V.int)[i]? = some x) : ∃ z, r[i]? = some z ∧ x = .int z := by
  rw [List.getElem?_map] at h
  cases e : r[i]? with
  | none => rw [e] at h; cases h
  | some z => rw [e] at h; cases h; exact ⟨z, rfl, rfl⟩
abbrev ends (Q : VK) : Ends := ⟨fun _ H' => Q .non H', Q, fun _ _ => False, fun _ _ => False⟩
structure Ctx where
  K : PySem.W.Frag
  cls : Str → Addr
/-- rows made of ints -/
theorem lcRr {n : Nat} {j : Nat} {te : TE} {vs : List Nat} {σ : L2.St} {H : Hp} {Q : VK} (f : Nat → Int) (hz : n ≤ 1000000) (hw : ∀ x, wipe ((wipe σ vs).set j (some x)) vs = wipe σ vs)
    (he : ∀ (i : Nat) H1, i < n → Same H H1 → ∀ R : VK, (∀ H2, Same H1 H2 → R (.int (f i)) H2) → te ((wipe σ vs).set j (some (.int (i : Int)))) H1 R)
    (hd : NewR H ((List.range n).map f) Q) : ∀ D, H D = none → ∃ W : Nat → Nat → Hp → Prop, (∃ m, W 0 m (upd H D (.lst []))) ∧ ∀ i m H, W i m H →
      ((Itr 0 n).stop i H ∧ Q (.ref D) H) ∨ ((Itr 0 n).go i H ∧ ∃ Nx : Hp → Prop, (∀ H', Nx H' → ∃ m', m' < m ∧ W (i + 1) m' H') ∧ ∀ x H', (Itr 0 n).yld i H x H' → gName j x (wipe σ vs) H' fun σ2 H2 => wipe σ2 vs = wipe σ vs ∧ tYes σ2 H2 fun b H3 =>
        if b = true then te σ2 H3 fun y H4 => ∃ acc, H4 D = some (.lst acc) ∧ acc.length < sizeLine ∧ Nx (upd H4 D (.lst (acc ++ [y]))) else Nx H3) :=
  lcR (dom H) f hz (fun _ h => h) hw (fun i H1 M1 hi s _ _ R k => he i H1 hi s R fun H2 s2 => k _ H2 s2 rfl) hd.l
theorem lcLr {K : PySem.W.Frag} {p : Addr} {xs : List V} {j : Nat} {te : TE} {vs : List Nat} {σ : L2.St} {H : Hp} {Q : VK} (f : Nat → Int) (hx : SqL K H p xs) (hz : xs.length ≤ 1000000) (hw : ∀ x, wipe ((wipe σ vs).set j (some x)) vs = wipe σ vs)
    (he : ∀ (i : Nat) x H1, xs[i]? = some x → Same H H1 → ∀ R : VK, (∀ H2, Same H1 H2 → R (.int (f i)) H2) → te ((wipe σ vs).set j (some x)) H1 R)
    (hd : NewR H ((List.range xs.length).map f) Q) : ∀ D, H D = none → ∃ W : Nat → Nat → Hp → Prop, (∃ m, W 0 m (upd H D (.lst []))) ∧ ∀ i m H, W i m H →
      ((Itl K p).stop i H ∧ Q (.ref D) H) ∨ ((Itl K p).go i H ∧ ∃ Nx : Hp → Prop, (∀ H', Nx H' → ∃ m', m' < m ∧ W (i + 1) m' H') ∧ ∀ x H', (Itl K p).yld i H x H' → gName j x (wipe σ vs) H' fun σ2 H2 => wipe σ2 vs = wipe σ vs ∧ tYes σ2 H2 fun b H3 =>
        if b = true then te σ2 H3 fun y H4 => ∃ acc, H4 D = some (.lst acc) ∧ acc.length < sizeLine ∧ Nx (upd H4 D (.lst (acc ++ [y]))) else Nx H3) :=
  lcL (dom H) f hx hz (fun _ h => h) hw (fun i x H1 M1 hi s _ _ R k => he i x H1 hi s R fun H2 s2 => k _ H2 s2 rfl) hd.l
theorem map_at0 (r : Row) (f : Int → Int) : (List.range (r.map V.int).length).map (fun i => f (at0 r i)) = r.map f := by
  rw [List.length_map]
  apply List.ext_getElem?
  intro i
  rw [List.getElem?_map, List.getElem?_map, range_get]
  by_cases h : i < r.length
  · rw [if_pos h, at0_get h]
    rfl
  · rw [if_neg h, List.getElem?_eq_none (by omega)]
    rfl
theorem lenV {r : Row} : (r.map V.int).length = r.length := List.length_map ..
/-! ### more steps -/
section
variable {σ : L2.St} {H H' : Hp} {Q : VK} {ta tb te : TE} {x y v : V} {K : PySem.W.Frag}
theorem v_lst {a : TA} (h : a σ H fun xs H1 => xs.length ≤ sizeLine ∧ ∀ p, H1 p = none → Q (.ref p) (upd H1 p (.lst xs))) : tLst a σ H Q := h
theorem v_tup {a : TA} (h : a σ H fun xs H1 => xs.length ≤ sizeLine ∧ ∀ p, H1 p = none → Q (.ref p) (upd H1 p (.tup xs))) : tTup a σ H Q := h
theorem small (n : Nat) (h : n ≤ 1000000) : n ≤ sizeLine := Nat.le_trans h (by decide)
theorem flat_one {α : Type} (n : Nat) (a : α) : (List.replicate n [a]).flatten = List.replicate n a := by
  induction n with
  | zero => rfl
  | succ n ih => rw [List.replicate_succ, List.flatten_cons, ih]; rfl
theorem w_rep {l : Addr} {z : Int} {n : Nat} (h : H l = some (.lst [.int z])) (hn : n ≤ 1000000) (q : ∀ p, H p = none → Q (.ref p) (upd H p (.lst ((List.replicate n z).map V.int)))) : rRep (.ref l) (.int (n : Int)) H Q := by
  refine ⟨l, n, [.int z], rfl, rfl, h, by omega, by omega, small _ (by simp; omega), fun p hp => ?_⟩
  have e : (List.replicate (n : Int).toNat [V.int z]).flatten = (List.replicate n z).map V.int := by
    rw [flat_one, List.map_replicate]
    rfl
  rw [e]
  exact q p hp
theorem w_cat {l b : Addr} {xs zs : List V} (h1 : H l = some (.lst xs)) (h2 : H b = some (.lst zs)) (hz : xs.length + zs.length ≤ 1000000) (q : ∀ p, H p = none → Q (.ref p) (upd H p (.lst (xs ++ zs)))) : rCat (.ref l) (.ref b) H Q := ⟨l, b, xs, zs, rfl, rfl, h1, h2, small _ hz, q⟩
theorem free_of {l p : Addr} {o : HO} (hl : H l = none) (h : upd H l o p = none) : H p = none := (same_new hl).free h
/-- a list of lists that stands in the heap -/
theorem mat_at {m : Mat} {xs : List V} {i : Nat} (h : All2 (rep H) xs m) (hi : i < m.length) : ∃ q, xs[i]? = some (.ref q) ∧ H q = some (.lst ((m.getD i []).map V.int)) := by
  have e : m[i]? = some (m.getD i []) := by
    rw [List.getD_eq_getElem?_getD, List.getElem?_eq_getElem hi]
    rfl
  obtain ⟨x, h1, h2⟩ := h.get e
  obtain ⟨q, rfl, hq⟩ := rep_row.mp h2
  exact ⟨q, h1, hq⟩
/-- all but l is as it was -/
def Chg (l : Addr) (H H' : Hp) : Prop := ∀ a o, a ≠ l → H a = some o → H' a = some o
theorem Chg.refl {l : Addr} (H : Hp) : Chg l H H := fun _ _ _ h => h
theorem Chg.trans {l : Addr} {H1 H2 H3 : Hp} (a : Chg l H1 H2) (b : Chg l H2 H3) : Chg l H1 H3 := fun x o n h => b x o n (a x o n h)
theorem Chg.of {l : Addr} (s : Same H H') : Chg l H H' := fun a o _ h => s a o h
theorem chg_upd {l : Addr} {o : HO} : Chg l H (upd H l o) := fun a u n h => by rw [upd_ne n]; exact h
theorem Chg.off {l : Addr} {M : Addr → Prop} (c : Chg l H H') (h : M l) : Same (off H M) (off H' M) := fun a o e => by
  obtain ⟨h1, h2⟩ := off_some.mp e
  exact off_in h1 (c a o (fun z => h1 (z ▸ h)) h2)
theorem Chg.dom {l a : Addr} (c : Chg l H H') (hl : dom H' l) (h : dom H a) : dom H' a := by
  by_cases e : a = l
  · exact e ▸ hl
  · unfold G.dom at *
    cases q : H a with
    | none => exact absurd q h
    | some o => rw [c a o e q]; exact fun z => by cases z
theorem ne_in {i : Int} : V.int i ≠ .non := fun h => by cases h
theorem ne_rn {p : Addr} : V.ref p ≠ .non := fun h => by cases h
theorem ne_bn {b : Bool} : V.bl b ≠ .non := fun h => by cases h
def optV : Option Nat → V
  | none => .non
  | some b => .int (b : Int)
end
/-- [list(row) for row in rows] -/
theorem lcCopy {K : PySem.W.Frag} {p : Addr} {xs : List V} {m : Mat} {j : Nat} {vs : List Nat} {σ : L2.St} {H : Hp} {Q : VK} (M : Addr → Prop) (hx : H p = some (.lst xs)) (ha : All2 (rep H) xs m) (hz : m.length ≤ 1000000) (hM : ∀ a, M a → dom H a)
    (hw : ∀ x, wipe ((wipe σ vs).set j (some x)) vs = wipe σ vs) (hv : ∀ x : V, ((wipe σ vs).set j (some x))[j]? = some (some x)) (hd : NewL M H m Q) : ∀ D, H D = none → ∃ W : Nat → Nat → Hp → Prop, (∃ m, W 0 m (upd H D (.lst []))) ∧ ∀ i m H, W i m H →
      ((Itl K p).stop i H ∧ Q (.ref D) H) ∨ ((Itl K p).go i H ∧ ∃ Nx : Hp → Prop, (∀ H', Nx H' → ∃ m', m' < m ∧ W (i + 1) m' H') ∧ ∀ x H', (Itl K p).yld i H x H' → gName j x (wipe σ vs) H' fun σ2 H2 => wipe σ2 vs = wipe σ vs ∧ tYes σ2 H2 fun b H3 =>
        if b = true then tCB (rLstG K) (tCons (tVar j) tNil) σ2 H3 fun y H4 => ∃ acc, H4 D = some (.lst acc) ∧ acc.length < sizeLine ∧ Nx (upd H4 D (.lst (acc ++ [y]))) else Nx H3) := by
  have hl := ha.len
  refine lcL M (fun i => m.getD i []) (SqL.of hx) (by omega) hM hw (fun i x H1 M1 hi s _ dm R k => ?_) ?_
  · have hi2 := (List.getElem?_eq_some_iff.mp hi).1
    obtain ⟨q, h1, h2⟩ := mat_at ha (i := i) (by omega)
    rw [h1] at hi
    cases hi
    refine w_cb (w_cons (w_var (hv _) (w_nil ?_)))
    refine w_lst (s _ _ h2) fun l hl => ?_
    exact k _ _ (same_new hl) (rep_row_of (off_in (fun z => dm _ z hl) upd_same))
  · rw [hl, list_eq_range]
    exact hd
theorem w_ixTat {K : PySem.W.Frag} {p : Addr} {xs : List V} {v : V} {H : Hp} {Q : VK} (i : Nat) (z : Int) (hz : z = (i : Int)) (h : H p = some (.tup xs)) (e : xs[i]? = some v) (q : Q v H) : rIxGT K (.ref p) (.int z) H Q := ⟨p, xs, i, v, rfl, by rw [hz], SqT.of h, e, q⟩
theorem w_ixAt {K : PySem.W.Frag} {p : Addr} {xs : List V} {v : V} {H : Hp} {Q : VK} (i : Nat) (z : Int) (hz : z = (i : Int)) (h : H p = some (.lst xs)) (e : xs[i]? = some v) (q : Q v H) : rIxG K (.ref p) (.int z) H Q := ⟨p, xs, i, v, rfl, by rw [hz], SqL.of h, e, q⟩
/-! ### comprehensions as they stand -/
section
variable {σ : L2.St} {H : Hp} {Q : VK} {K : PySem.W.Frag} {wi : TI} {te : TE} {vs : List Nat} {j : Nat}
theorem lcRT {β : Type} [Rep β] {n : Nat} (hi : ∀ R : It → Hp → Prop, R (Itr 0 n) H → wi σ H R) (M : Addr → Prop) (f : Nat → β) (hz : n ≤ 1000000) (hM : ∀ a, M a → dom H a) (hw : ∀ x, wipe ((wipe σ vs).set j (some x)) vs = wipe σ vs)
    (he : ∀ (i : Nat) H1 M1, i < n → Same H H1 → Same (off H M) (off H1 M1) → (∀ a, M1 a → dom H1 a) → ∀ R : VK, (∀ v H2, Same H1 H2 → rep (off H2 M1) v (f i) → R v H2) → te ((wipe σ vs).set j (some (.int (i : Int)))) H1 R)
    (hd : NewL M H ((List.range n).map f) Q) : tLc wi (gName j) tYes te vs σ H Q := v_lc (hi _ (lcR M f hz hM hw he hd))
theorem lcLT {β : Type} [Rep β] {p : Addr} {xs : List V} (hi : ∀ R : It → Hp → Prop, R (Itl K p) H → wi σ H R) (M : Addr → Prop) (f : Nat → β) (hx : SqL K H p xs) (hz : xs.length ≤ 1000000) (hM : ∀ a, M a → dom H a) (hw : ∀ x, wipe ((wipe σ vs).set j (some x)) vs = wipe σ vs)
    (he : ∀ (i : Nat) x H1 M1, xs[i]? = some x → Same H H1 → Same (off H M) (off H1 M1) → (∀ a, M1 a → dom H1 a) → ∀ R : VK, (∀ v H2, Same H1 H2 → rep (off H2 M1) v (f i) → R v H2) → te ((wipe σ vs).set j (some x)) H1 R)
    (hd : NewL M H ((List.range xs.length).map f) Q) : tLc wi (gName j) tYes te vs σ H Q := v_lc (hi _ (lcL M f hx hz hM hw he hd))
theorem lcRrT {n : Nat} (hi : ∀ R : It → Hp → Prop, R (Itr 0 n) H → wi σ H R) (f : Nat → Int) (hz : n ≤ 1000000) (hw : ∀ x, wipe ((wipe σ vs).set j (some x)) vs = wipe σ vs)
    (he : ∀ (i : Nat) H1, i < n → Same H H1 → ∀ R : VK, (∀ H2, Same H1 H2 → R (.int (f i)) H2) → te ((wipe σ vs).set j (some (.int (i : Int)))) H1 R)
    (hd : NewR H ((List.range n).map f) Q) : tLc wi (gName j) tYes te vs σ H Q := v_lc (hi _ (lcRr f hz hw he hd))
theorem lcLrT {p : Addr} {xs : List V} (hi : ∀ R : It → Hp → Prop, R (Itl K p) H → wi σ H R) (f : Nat → Int) (hx : SqL K H p xs) (hz : xs.length ≤ 1000000) (hw : ∀ x, wipe ((wipe σ vs).set j (some x)) vs = wipe σ vs)
    (he : ∀ (i : Nat) x H1, xs[i]? = some x → Same H H1 → ∀ R : VK, (∀ H2, Same H1 H2 → R (.int (f i)) H2) → te ((wipe σ vs).set j (some x)) H1 R)
    (hd : NewR H ((List.range xs.length).map f) Q) : tLc wi (gName j) tYes te vs σ H Q := v_lc (hi _ (lcLr f hx hz hw he hd))
theorem lcCopyT {p : Addr} {xs : List V} {m : Mat} (hi : ∀ R : It → Hp → Prop, R (Itl K p) H → wi σ H R) (M : Addr → Prop) (hx : H p = some (.lst xs)) (ha : All2 (rep H) xs m) (hz : m.length ≤ 1000000) (hM : ∀ a, M a → dom H a)
    (hw : ∀ x, wipe ((wipe σ vs).set j (some x)) vs = wipe σ vs) (hv : ∀ x : V, ((wipe σ vs).set j (some x))[j]? = some (some x)) (hd : NewL M H m Q) : tLc wi (gName j) tYes (tCB (rLstG K) (tCons (tVar j) tNil)) vs σ H Q := v_lc (hi _ (lcCopy M hx ha hz hM hw hv hd))
end
end G
end
section
set_option Elab.async false
set_option linter.all false
set_option maxRecDepth 100000
namespace G
open PySem L2 PyProof.Rows
/-! ### methods and classes -/
def AtM (K : PySem.W.Frag) (C : Addr) (x q : Str) (st : Stmt) : Prop := ∃ f fd, Fun K x q st f fd ∧ Meth K C x f
def Met (P : Program) (w : World) (K : PySem.W.Frag) (mg : Str → Option Value) (base : Heap) (C : Addr) (k : Nat) (x : Str) (sp : Sp) : Prop :=
  ∃ f fd ps, FnOk P w K mg base CX0 k f fd ps sp ∧ Meth K C x f ∧ Binds K fd ps []
/-- where __init__ of the class stands -/
def AtI (K : PySem.W.Frag) (mg : Str → Option Value) (C : Addr) (x q : Str) (st : Stmt) : Prop := ∃ f fd, Fun K "__init__" q st f fd ∧ Mk K C f ∧ mg x = some (.ref C)
def Mak (P : Program) (w : World) (K : PySem.W.Frag) (mg : Str → Option Value) (base : Heap) (C : Addr) (k : Nat) (x : Str) (sp : Sp) : Prop :=
  ∃ f fd ps, FnOk P w K mg base CX0 k f fd ps sp ∧ Mk K C f ∧ mg x = some (.ref C) ∧ Binds K fd ps []
section
variable {X : Cx}
theorem g_meth {pl : Sem Bool} {k : Nat} {C : Addr} {m : Str} {sp : Sp} {o e : Expr} {es : List Expr} {apos pos : Pos} {ta : TE} {t : TA} (he : PE X o ta) (c : Cls X.K C) (M : Met X.prog X.w X.K X.mg X.base C k m sp) (hr : Room k X.A) (ha : PA X (e :: es) t)
    (hst : starEach (e :: es) X.env = (false, eval e X.env) :: starEach es X.env := by rfl) (hpl : (backTo pos (starEach es X.env)).any (·.1) = false := by rfl)
    (ht : eval (.Call (.Attribute o m apos) (e :: es) [] pos) X.env = (do
      let ov ← eval o X.env
      standAt apos.atName
      let (f, first) ← holding [ov] (getMethod ov m pl)
      callWith pos f first (backTo pos (starEach (e :: es) X.env)) (backToKw pos (keywordEach [] X.env))) := by rfl) : PE X (.Call (.Attribute o m apos) (e :: es) [] pos) (tMeth C m sp [] E0 ta t) := by
  obtain ⟨f, fd, ps, F, hm, b⟩ := M
  exact pe_meth he c hm F hr b .nil pass0 ha hst hpl ht
theorem g_meth0 {pl : Sem Bool} {k : Nat} {C : Addr} {m : Str} {sp : Sp} {o : Expr} {apos pos : Pos} {ta : TE} (he : PE X o ta) (c : Cls X.K C) (M : Met X.prog X.w X.K X.mg X.base C k m sp) (hr : Room k X.A)
    (ht : eval (.Call (.Attribute o m apos) [] [] pos) X.env = (do
      let ov ← eval o X.env
      standAt apos.atName
      let (f, first) ← holding [ov] (getMethod ov m pl)
      callWith pos f first (backTo pos (starEach [] X.env)) (backToKw pos (keywordEach [] X.env))) := by rfl) : PE X (.Call (.Attribute o m apos) [] [] pos) (tMeth C m sp [] E0 ta tNil) := by
  obtain ⟨f, fd, ps, F, hm, b⟩ := M
  exact pe_meth0 he c hm F hr b .nil pass0 ht
theorem g_int {x : Str} {i : Int} {t : Tok} {pos : Pos} (hg : Gl X x) (hm : X.mg x = some (.int i t)) (hd : (x == ("__debug__" : Str)) = false := by decide) : PE X (.Name x pos) (tC (.int i)) := pe_glob hg hm ⟨_, rfl⟩ hd
theorem g_make {k : Nat} {C : Addr} {x : Str} {sp : Sp} {e : Expr} {es : List Expr} {p pos : Pos} {t : TA} (M : Mak X.prog X.w X.K X.mg X.base C k x sp) (hr : Room (k + 1) X.A) (hg : Gl X x) (ha : PA X (e :: es) t)
    (hdb : (x == ("__debug__" : Str)) = false := by decide) (he : starEach (e :: es) X.env = (false, eval e X.env) :: starEach es X.env := by rfl) (hpl : (backTo pos (starEach es X.env)).any (·.1) = false := by rfl) :
    PE X (.Call (.Name x p) (e :: es) [] pos) (tMake C sp [] E0 t) := by
  obtain ⟨f, fd, ps, F, mk, hm, b⟩ := M
  exact pe_make mk F hr hg hm b .nil pass0 ha hdb he hpl
end
section
variable {P : Program} {w : World} {K : PySem.W.Frag} {mg : Str → Option Value} {base : Heap}
theorem met_mk {C : Addr} {x q : Str} {st : Stmt} {N ps : List Str} {k : Nat} {sp : Sp} {t : TS} (A : AtM K C x q st) (S : FnScope N ps (defScope st)) (len : ∀ vs H Q E, sp vs H Q E → vs.length = ps.length)
    (hb : ∀ (kV doc pm : Value) (an : Option Addr) (cdv ct : Value) (us : List Value), us.length = ps.length → bindArgs (PySem.W.fnOf x q (defArgs st) (defBody st) (defScope st) .none kV doc pm an cdv ct) ⟨us, []⟩ = pure (ps.zip us))
    (hw : ∀ (f : Addr) (cdv : Value) (A : Around) (outer : List Env) (s : Shared) (H : Hp) (E : XK), Room k (A.deeper (envOfC q (defScope st) s.heap.objs.size f cdv)) →
      PSs (cxOf CX0 P w K mg base N q (defScope st) f cdv A outer s H E).nox (defBody st) t)
    (hd : ∀ vs H Q E, sp vs H Q E → t { nx := fun _ H' => Q .non H', rt := Q } (start N vs) H) : Met P w K mg base C (k + 1) x sp := by
  obtain ⟨f, fd, F, hm⟩ := A
  exact ⟨f, fd, ps, F.ok S len fun cdv A outer s H vs Q E hr h => ⟨t, hw f cdv A outer s H E hr, hd vs H Q E h⟩, hm, F.binds hb⟩
theorem mak_mk {C : Addr} {x q : Str} {st : Stmt} {N ps : List Str} {k : Nat} {sp : Sp} {t : TS} (A : AtI K mg C x q st) (S : FnScope N ps (defScope st)) (len : ∀ vs H Q E, sp vs H Q E → vs.length = ps.length)
    (hb : ∀ (kV doc pm : Value) (an : Option Addr) (cdv ct : Value) (us : List Value), us.length = ps.length → bindArgs (PySem.W.fnOf "__init__" q (defArgs st) (defBody st) (defScope st) .none kV doc pm an cdv ct) ⟨us, []⟩ = pure (ps.zip us))
    (hw : ∀ (f : Addr) (cdv : Value) (A : Around) (outer : List Env) (s : Shared) (H : Hp) (E : XK), Room k (A.deeper (envOfC q (defScope st) s.heap.objs.size f cdv)) →
      PSs (cxOf CX0 P w K mg base N q (defScope st) f cdv A outer s H E).nox (defBody st) t)
    (hd : ∀ vs H Q E, sp vs H Q E → t { nx := fun _ H' => Q .non H', rt := Q } (start N vs) H) : Mak P w K mg base C (k + 1) x sp := by
  obtain ⟨f, fd, F, mk, hm⟩ := A
  exact ⟨f, fd, ps, F.ok S len fun cdv A outer s H vs Q E hr h => ⟨t, hw f cdv A outer s H E hr, hd vs H Q E h⟩, mk, hm, F.binds hb⟩
theorem depth_of {k : Nat} {A : Around} (hr : Room k A) (hk : 32 ≤ k) : A.depth + 100 < recursionLimit := by
  have := hr.dp
  omega
end
end G
end
section
set_option Elab.async false
set_option linter.all false
set_option maxRecDepth 100000
namespace G
open PySem L2 PyProof.Rows
/-! ### == of data -/
class Dat (α : Type) [Rep α] [DecidableEq α] where
  dat : α → PyData
  dep : Nat
  dp : ∀ {K : PySem.W.Frag} {H : Hp} {v : V} {a : α}, rep H v a → Dp K H v (dat a)
  lay : ∀ a : α, (dat a).canLay0 = true ∧ (dat a).depth ≤ dep
  eqv : ∀ a b : α, PyData.eqv (dat a) (dat b) = decide (a = b)
instance : Dat Int where
  dat := .int
  dep := 0
  dp := fun {K H v a} h => by
    obtain rfl : v = .int a := h
    exact .int a
  lay := fun a => ⟨by simp only [PyData.canLay0], by simp only [PyData.depth]; exact Nat.le_refl _⟩
  eqv := fun a b => by
    simp only [PyData.eqv]
    by_cases h : a = b <;> simp [h]
section
variable {α : Type} [Rep α] [DecidableEq α] [Dat α]
theorem dpAll {K : PySem.W.Frag} {H : Hp} : ∀ {xs : List V} {as : List α}, All2 (rep H) xs as → DpAll K H xs (as.map Dat.dat)
  | [], [], _ => .nil
  | _ :: _, _ :: _, h => .cons (Dat.dp h.1) (dpAll h.2)
  | [], _ :: _, h => h.elim
  | _ :: _, [], h => h.elim
theorem layAll : ∀ as : List α, PyData.canLayAll0 (as.map Dat.dat) = true ∧ PyData.depthAll (as.map Dat.dat) ≤ Dat.dep α
  | [] => ⟨by simp only [List.map_nil, PyData.canLayAll0], by simp only [List.map_nil, PyData.depthAll]; exact Nat.zero_le _⟩
  | a :: as => by
    obtain ⟨h1, h2⟩ := Dat.lay a
    obtain ⟨h3, h4⟩ := layAll as
    simp only [List.map_cons, PyData.canLayAll0, PyData.depthAll]
    exact ⟨by rw [h1, h3]; rfl, Nat.max_le.mpr ⟨h2, h4⟩⟩
theorem eqvAll : ∀ as bs : List α, PyData.eqvAll (as.map Dat.dat) (bs.map Dat.dat) = decide (as = bs)
  | [], [] => by simp [PyData.eqvAll]
  | a :: as, b :: bs => by
    simp only [List.map_cons, PyData.eqvAll, Dat.eqv, eqvAll as bs]
    by_cases h1 : a = b <;> by_cases h2 : as = bs <;> simp [h1, h2]
  | [], _ :: _ => by simp [PyData.eqvAll]
  | _ :: _, [] => by simp [PyData.eqvAll]
instance : Dat (List α) where
  dat := fun as => .list (as.map Dat.dat)
  dep := Dat.dep α + 1
  dp := fun {K H v a} h => by
    obtain ⟨p, xs, rfl, e, r⟩ := h
    exact .lst (SqL.of e) (dpAll r)
  lay := fun a => by
    obtain ⟨h1, h2⟩ := layAll a
    simp only [PyData.canLay0, PyData.depth]
    exact ⟨h1, Nat.succ_le_succ h2⟩
  eqv := fun a b => by
    simp only [PyData.eqv]
    exact eqvAll a b
theorem shaped_of (a : α) (h : Dat.dep α ≤ 64) : SeqAt.shaped (Dat.dat a) = true := by
  obtain ⟨h1, h2⟩ := Dat.lay a
  unfold SeqAt.shaped
  rw [h1, decide_eq_true (Nat.le_trans h2 h)]
  rfl
variable {K : PySem.W.Frag} {H : Hp} {x y : V} {a b : α} {Q : VK}
theorem w_eqD (h1 : rep H x a) (h2 : rep H y b) (q : Q (.bl (decide (a = b))) H) (hd : Dat.dep α ≤ 64 := by decide) : rEqD K x y H Q :=
  ⟨Dat.dat a, Dat.dat b, Dat.dp h1, Dat.dp h2, shaped_of a hd, shaped_of b hd, by rw [Dat.eqv]; exact q⟩
theorem w_neD (h1 : rep H x a) (h2 : rep H y b) (q : Q (.bl (decide (a ≠ b))) H) (hd : Dat.dep α ≤ 64 := by decide) : rNeD K x y H Q :=
  ⟨Dat.dat a, Dat.dat b, Dat.dp h1, Dat.dp h2, shaped_of a hd, shaped_of b hd, by
    rw [Dat.eqv]
    have e : (!decide (a = b)) = decide (a ≠ b) := by by_cases h : a = b <;> simp [h]
    rw [e]
    exact q⟩
end
/-! ### isinstance -/
section
variable {K : PySem.W.Frag} {H : Hp} {Q : VK} {i : Int} {p : Addr} {xs cs : List V}
theorem w_isi (x : V) (t c : String) (b : Bool) (ty : TyX K H x (.type t)) (e : kitB t c = some b) (q : Q (.bl b) H) : rIsi K [x, .ty c] H Q := ⟨x, .ty c, .type t, .type c, b, rfl, .ty c, ty, kit_ty e, q⟩
theorem w_isiII (q : Q (.bl true) H) : rIsi K [.int i, .ty "int"] H Q := w_isi _ "int" "int" true (.base (.int i)) (by decide +kernel) q
theorem w_isiIB (q : Q (.bl false) H) : rIsi K [.int i, .ty "bool"] H Q := w_isi _ "int" "bool" false (.base (.int i)) (by decide +kernel) q
theorem w_isiBB {b : Bool} (q : Q (.bl true) H) : rIsi K [.bl b, .ty "bool"] H Q := w_isi _ "bool" "bool" true (.base (.bl b)) (by decide +kernel) q
theorem w_isiBI {b : Bool} (q : Q (.bl true) H) : rIsi K [.bl b, .ty "int"] H Q := w_isi _ "bool" "int" true (.base (.bl b)) (by decide +kernel) q
theorem w_isiLL (h : H p = some (.lst xs)) (q : Q (.bl true) H) : rIsi K [.ref p, .ty "list"] H Q := w_isi _ "list" "list" true (.base (.lst h)) (by decide +kernel) q
theorem w_isiNL (q : Q (.bl false) H) : rIsi K [.non, .ty "list"] H Q := w_isi _ "NoneType" "list" false (.base .non) (by decide +kernel) q
theorem w_isiLT {tp : Addr} (h : H p = some (.lst xs)) (ht : H tp = some (.tup [.ty "list", .ty "tuple"])) (q : Q (.bl true) H) : rIsiT K [.ref p, .ref tp] H Q :=
  ⟨.ref p, tp, _, .type "list", [.type "list", .type "tuple"], true, rfl, ht, .cons (.ty _) (.cons (.ty _) .nil), .base (.lst h), kitAny_cons (b := true) (kit_ty (by decide +kernel)) (fun z => by cases z) (fun _ => rfl), q⟩
/-! ### slices, sums, greatest -/
theorem v_sl {r : V → Option Int → Option Int → Hp → VK → Prop} {te : TE} {tl th : TO} {σ : L2.St} (h : te σ H fun x H1 => tl σ H1 fun l H2 => th σ H2 fun u H3 => r x l u H3 Q) : tSl r te tl th σ H Q := h
theorem v_noP {σ : L2.St} {R : Option Int → Hp → Prop} (h : R none H) : tNoPart σ H R := h
theorem v_part {σ : L2.St} {te : TE} {R : Option Int → Hp → Prop} (h : te σ H fun x H1 => ∃ i, x = .int i ∧ R (some i) H1) : tPart te σ H R := h
theorem w_sl {lo hi : Option Int} (h : H p = some (.lst xs)) (q : ∀ l, H l = none → Q (.ref l) (upd H l (.lst (cutV xs lo hi)))) : rSlL K (.ref p) lo hi H Q := ⟨p, xs, rfl, SqL.of h, q⟩
theorem cut_to (r : List V) (w : Nat) : cutV r none (some (w : Int)) = r.take w := by
  unfold cutV
  rw [HT.sIx_none, HT.sIx_nat, List.drop_zero, Nat.sub_zero]
  by_cases h : w ≤ r.length
  · rw [Nat.min_eq_left h]
  · rw [Nat.min_eq_right (by omega), List.take_of_length_le (Nat.le_refl _), List.take_of_length_le (by omega)]
theorem cut_from (r : List V) (w : Nat) : cutV r (some (w : Int)) none = r.drop w := by
  unfold cutV
  rw [HT.sIx_none, HT.sIx_nat]
  by_cases h : w ≤ r.length
  · rw [Nat.min_eq_left h, List.take_of_length_le (by rw [List.length_drop]; exact Nat.le_refl _)]
  · rw [Nat.min_eq_right (by omega), List.drop_eq_nil_of_le (Nat.le_refl _), List.drop_eq_nil_of_le (by omega), List.take_nil]
theorem w_sum {r : Row} (h : H p = some (.lst (r.map V.int))) (q : Q (.int r.sum) H) : rSum K [.ref p] H Q := ⟨p, r, rfl, SqL.of h, q⟩
theorem w_max {r : Row} (h : H p = some (.lst (r.map V.int))) (h0 : 0 < r.length) (q : ∀ m, m ∈ r → (∀ y, y ∈ r → y ≤ m) → Q (.int m) H) : rMax K [.ref p] H Q := ⟨p, r, rfl, SqL.of h, h0, q⟩
end
/-! ### comprehensions with a test -/
structure Lcf {β : Type} [Rep β] (H : Hp) (M : Addr → Prop) (f : Nat → Bool) (v : Nat → β) (D : Addr) (i : Nat) (H' : Hp) : Prop where
  s : Same H H'
  n : H D = none
  l : ∃ xs, H' D = some (.lst xs) ∧ All2 (rep (off H' (wth M D))) xs (((List.range i).filter f).map v)
section
variable {β : Type} [Rep β] {H : Hp} {M : Addr → Prop} {f : Nat → Bool} {v : Nat → β} {D : Addr} {i : Nat} {H1 H2 : Hp} {x : V}
theorem filter_yes (h : f i = true) : ((List.range (i + 1)).filter f).map v = ((List.range i).filter f).map v ++ [v i] := by
  rw [List.range_succ, List.filter_append, List.map_append]
  simp [h]
theorem filter_no (h : f i = false) : ((List.range (i + 1)).filter f).map v = ((List.range i).filter f).map v := by
  rw [List.range_succ, List.filter_append, List.map_append]
  simp [h]
theorem Lcf.snoc (L : Lcf H M f v D i H1) (hz : i < 1000000) (hf : f i = true) (s : Same H1 H2) (r : rep (off H2 (wth M D)) x (v i)) :
    ∃ acc, H2 D = some (.lst acc) ∧ acc.length < sizeLine ∧ Lcf H M f v D (i + 1) (upd H2 D (.lst (acc ++ [x]))) := by
  obtain ⟨xs, e, a⟩ := L.l
  have hl := a.len
  have hl2 := List.length_filter_le f (List.range i)
  rw [List.length_map] at hl
  rw [List.length_range] at hl2
  refine ⟨xs, s _ _ e, Nat.lt_of_lt_of_le (show xs.length < 1000000 by omega) (by decide), same_mut (L.s.trans s) L.n, L.n, _, upd_same, ?_⟩
  rw [off_upd wth_l, filter_yes hf]
  exact (all2_mono (off_mono s) a).snoc r
theorem Lcf.skip (L : Lcf H M f v D i H1) (hf : f i = false) (s : Same H1 H2) : Lcf H M f v D (i + 1) H2 := by
  obtain ⟨xs, e, a⟩ := L.l
  exact ⟨L.s.trans s, L.n, xs, s _ _ e, by rw [filter_no hf]; exact all2_mono (off_mono s) a⟩
theorem Lcf.start (n : H D = none) : Lcf H M f v D 0 (upd H D (.lst [])) := ⟨same_new n, n, [], upd_same, trivial⟩
theorem Lcf.off (L : Lcf H M f v D i H1) : Same (off H M) (off H1 (wth M D)) := off_imp L.s fun a h => by
  rcases h with h | h
  · exact .inl h
  · exact .inr (h ▸ L.n)
theorem Lcf.dm (L : Lcf H M f v D i H1) (hM : ∀ a, M a → dom H a) (a : Addr) (h : wth M D a) : dom H1 a := by
  rcases h with h | h
  · exact dom_same L.s (hM a h)
  · obtain ⟨xs, e, _⟩ := L.l
    exact h ▸ dom_of e
variable {σ : L2.St} {Q : VK} {K : PySem.W.Frag} {wi : TI} {tt : TT} {te : TE} {vs : List Nat} {j : Nat}
theorem lcRF {n : Nat} (hi : ∀ R : It → Hp → Prop, R (Itr 0 n) H → wi σ H R) (M : Addr → Prop) (f : Nat → Bool) (v : Nat → β) (hz : n ≤ 1000000) (hM : ∀ a, M a → dom H a) (hw : ∀ x, wipe ((wipe σ vs).set j (some x)) vs = wipe σ vs)
    (ht : ∀ (i : Nat) H1, i < n → Same H H1 → ∀ R : Bool → Hp → Prop, (∀ H2, Same H1 H2 → R (f i) H2) → tt ((wipe σ vs).set j (some (.int (i : Int)))) H1 R)
    (he : ∀ (i : Nat) H1 M1, i < n → f i = true → Same H H1 → Same (G.off H M) (G.off H1 M1) → (∀ a, M1 a → dom H1 a) → ∀ R : VK, (∀ x H2, Same H1 H2 → rep (G.off H2 M1) x (v i) → R x H2) → te ((wipe σ vs).set j (some (.int (i : Int)))) H1 R)
    (hd : NewL M H (((List.range n).filter f).map v) Q) : tLc wi (gName j) tt te vs σ H Q := v_lc (hi _ fun D hD =>
  lc_range (lo := 0) (n := n) (Lcf H M f v D) (.start hD) (fun i H1 hi L => by
    refine ⟨hw _, ?_⟩
    have e0 : (0 : Int) + (i : Int) = (i : Int) := Int.zero_add _
    rw [e0]
    refine ht i H1 hi L.s _ fun H2 s2 => ?_
    cases hf : f i with
    | true =>
      refine iteT ?_
      refine he i H2 (wth M D) hi hf (L.s.trans s2) (L.off.trans (off_mono s2)) (fun a h => dom_same s2 (L.dm hM a h)) _ fun x H3 s3 r => L.snoc (by omega) hf (s2.trans s3) r
    | false =>
      refine iteF ?_
      exact L.skip hf s2) fun H' L => by
    obtain ⟨xs, e, a⟩ := L.l
    exact hd D xs H' L.s L.n e a)
theorem lcLF {p : Addr} {xs : List V} (hi : ∀ R : It → Hp → Prop, R (Itl K p) H → wi σ H R) (M : Addr → Prop) (f : Nat → Bool) (v : Nat → β) (hx : SqL K H p xs) (hz : xs.length ≤ 1000000) (hM : ∀ a, M a → dom H a) (hw : ∀ x, wipe ((wipe σ vs).set j (some x)) vs = wipe σ vs)
    (ht : ∀ (i : Nat) x H1, xs[i]? = some x → Same H H1 → ∀ R : Bool → Hp → Prop, (∀ H2, Same H1 H2 → R (f i) H2) → tt ((wipe σ vs).set j (some x)) H1 R)
    (he : ∀ (i : Nat) x H1 M1, xs[i]? = some x → f i = true → Same H H1 → Same (G.off H M) (G.off H1 M1) → (∀ a, M1 a → dom H1 a) → ∀ R : VK, (∀ y H2, Same H1 H2 → rep (G.off H2 M1) y (v i) → R y H2) → te ((wipe σ vs).set j (some x)) H1 R)
    (hd : NewL M H (((List.range xs.length).filter f).map v) Q) : tLc wi (gName j) tt te vs σ H Q := v_lc (hi _ fun D hD =>
  lc_list (xs := xs) (Lcf H M f v D) (.start hD) (fun i H1 _ L => L.s.seq hx) (fun i x H1 hi L => by
    refine ⟨hw _, ?_⟩
    refine ht i x H1 hi L.s _ fun H2 s2 => ?_
    cases hf : f i with
    | true =>
      refine iteT ?_
      refine he i x H2 (wth M D) hi hf (L.s.trans s2) (L.off.trans (off_mono s2)) (fun a h => dom_same s2 (L.dm hM a h)) _ fun y H3 s3 r => L.snoc (by have := (List.getElem?_eq_some_iff.mp hi).1; omega) hf (s2.trans s3) r
    | false =>
      refine iteF ?_
      exact L.skip hf s2) fun H' L => by
    obtain ⟨ys, e, a⟩ := L.l
    exact hd D ys H' L.s L.n e a)
end
/-! ### fields -/
section
variable {σ : L2.St} {H : Hp} {Q : VK} {K : PySem.W.Frag} {ta tv : TE} {nx bk ct : L2.St → Hp → Prop} {rt : VK} {f : Str} {a C dx : Addr} {fs : List (Str × V)} {v : V}
theorem v_fldE (h : H a = some (.ins C dx fs)) (c : Cls K C) (n : NoAttr K C f) (l : fs.lookup f = some v) (q : Q v H) (hv : ta σ H fun x H1 => ∃ a C dx fs v, x = .ref a ∧ H1 a = some (.ins C dx fs) ∧ Cls K C ∧ NoAttr K C f ∧ fs.lookup f = some v ∧ Q v H1) : tFld K ta f σ H Q := hv
theorem v_fld (h : ta σ H fun x H1 => ∃ a C dx fs v, x = .ref a ∧ H1 a = some (.ins C dx fs) ∧ Cls K C ∧ NoAttr K C f ∧ fs.lookup f = some v ∧ Q v H1) : tFld K ta f σ H Q := h
theorem v_sfld (h : tv σ H fun y H1 => ta σ H1 fun x H2 => ∃ a C dx fs, x = .ref a ∧ H2 a = some (.ins C dx fs) ∧ Cls K C ∧ NoAttr K C f ∧ fs.length < 1000 ∧ nx σ (upd H2 a (.ins C dx (putF f y fs)))) : sFld K ta tv f ⟨nx, rt, bk, ct⟩ σ H := h
end
section
variable {σ : L2.St} {H : Hp} {Q : VK} {ta tb tc : TE} {r r' : R2}
theorem w_nff {A B : Prop} (h : A) : if (!false) = true then A else B := iteT h
theorem w_ntt {A B : Prop} (h : B) : if (!true) = true then A else B := iteF h
theorem w_nite {c A B : Prop} [Decidable c] (h1 : c → B) (h2 : ¬ c → A) : if (!decide c) = true then A else B := by
  by_cases h : c
  · rw [decide_eq_true h]
    exact iteF (h1 h)
  · rw [decide_eq_false h]
    exact iteT (h2 h)
theorem v_chain (h : ta σ H fun x H1 => tb σ H1 fun y H2 => r x y H2 fun z H3 => ∃ k, z = .bl k ∧ (if k = true then tc σ H3 fun w' H4 => r' y w' H4 Q else Q (.bl false) H3)) : tChain r r' ta tb tc σ H Q := h
theorem v_andV (h : ta σ H fun x H1 => ∃ c, x = .bl c ∧ if c = true then tb σ H1 Q else Q (.bl false) H1) : tAndV ta tb σ H Q := h
theorem v_orV (h : ta σ H fun x H1 => ∃ c, x = .bl c ∧ if c = true then Q (.bl true) H1 else tb σ H1 Q) : tOrV ta tb σ H Q := h
theorem v_notV (h : ta σ H fun x H1 => ∃ c, x = .bl c ∧ Q (.bl (!c)) H1) : tNotV ta σ H Q := h
end
end G
end
section
set_option Elab.async false
set_option linter.all false
set_option maxRecDepth 100000
namespace G
open PySem L2 PyProof.Rows PySem.Spec
/-! ### the end, with a seer's heap handed on -/
theorem run_law {P : Program} {w : World} {K : PySem.W.Frag} {mg mb : Str → Option Value} {k : Nat} {fa a : Addr} {fd : FuncData} {x : Str} {sp : Sp} {t : Shared} {us : List Value} {ns : List Int}
    (inK : K.In t.heap) (gl : t.heap.Ns mainGlobals mg) (bl : t.heap.Ns builtinsNs mb) (bbl : ∀ x : Str, x ≠ "__name__" → mb x = bootBuiltins x) (nl : t.heap.NoLimit) (ng : t.gens = #[]) (sk : t.heap.NoSeer)
    (at_a : t.heap.get? a = some { cls := .type "list", data := .seq us.toArray }) (hi : IntsAre us ns) (hl : ns.length ≤ sizeLine) (room : Room k callerA)
    (F : ∀ base : Heap, K.In base → base.Ns mainGlobals mg → base.NoSeer → FnOk P w K mg base CX0 k fa fd [x] sp) (bnd : ∀ (s : Shared) (u : Value), BindsTo s fd ⟨[u], []⟩ [(x, u)])
    (prom : ∀ H : Hp, SqL K H a (ns.map V.int) → sp [.ref a] H (fun v _ => v = .bl true) fun _ _ _ => False) :
    codeAny (model P w) callerA (.call (.ref fa) ⟨[.ref a], []⟩) (fun r s' => r = .ok (.ret (.bool true)) ∧ OldK t.heap s'.heap ∧ s'.os = t.os ∧ AllBare s'.gens) t := by
  have itv := vals_ints hi
  have sizes := hi.length
  have mid : ∀ H : Hp, Only H → SqL K H a (ns.map V.int) → HOk P w H t.heap → (∀ b, H b ≠ none → b = a) → (H a ≠ none → K.lookup a = none) →
      codeAny (model P w) callerA (.call (.ref fa) ⟨[.ref a], []⟩) (fun r s' => r = .ok (.ret (.bool true)) ∧ OldK t.heap s'.heap ∧ s'.os = t.os ∧ AllBare s'.gens) t := by
    intro H hOn sq hok just free
    -- what is no list of the script's class is not hidden
    have cleared : ∀ {b : Addr} {o : Obj}, t.heap.get? b = some o → o ≠ { cls := .type "list", data := .seq us.toArray } → H b = none := fun {b o} e n => by
      cases q : H b with
      | none => rfl
      | some u =>
        obtain rfl : b = a := just b (by rw [q]; simp)
        rw [at_a] at e
        cases e
        exact absurd rfl n
    have shown : ∀ {b : Addr} {o : Obj}, t.heap.get? b = some o → o ≠ { cls := .type "list", data := .seq us.toArray } → (hidT t.heap H).get? b = some o := fun e n => hidT_get e (cleared e n)
    have nsM : ∀ {b : Addr} {m : Str → Option Value}, t.heap.Ns b m → (hidT t.heap H).Ns b m := fun {b m} ⟨o, es, ep, e, d, r⟩ => ⟨o, es, ep, shown e (fun z => by rw [z] at d; cases d), d, r⟩
    have inB : K.In (hidT t.heap H) := fun b o e => by
      refine hidT_get (inK b o e) ?_
      cases q : H b with
      | none => rfl
      | some u =>
        obtain rfl : b = a := just b (by rw [q]; simp)
        rw [free (by rw [q]; simp)] at e
        cases e
    have seer : (hidT t.heap H).NoSeer := by
      obtain ⟨⟨mc, s1, s2⟩, ⟨mm, m1, m2⟩, ⟨mi, i1, i2⟩, ⟨mn, bm, ob, n1, n2, n3, n4, n5⟩⟩ := sk
      refine ⟨⟨mc, nsM s1, s2⟩, ⟨mm, nsM m1, m2⟩, ⟨mi, nsM i1, i2⟩, ⟨mn, bm, ob, nsM n1, n2, shown n3 (fun z => ?_), n4, n5⟩⟩
      rw [z] at n5
      cases n5
    have md : Mod K mg (hidT t.heap H) := ⟨inB, nsM gl, ⟨mb, nsM bl, bbl⟩, let ⟨mc, h1, h2⟩ := nl; ⟨mc, nsM h1, h2⟩⟩
    have start0 : Env0 P w K mg (hidT t.heap H) callerA [] t H := ⟨rfl, md, fun b o e => of_hidT e, Nat.le_of_eq (hidT_size _ _), trivial, (fun b hb => absurd (show b ∈ ([] : List Addr) from hb) List.not_mem_nil), hok, .of_eq ng⟩
    have ran := (F _ inB (nsM gl) seer).run callerA [] t H ⟨[.ref a], []⟩ [.ref a] [.ref a] _ _ room start0 (bnd t (.ref a)) (.cons rfl .nil) (prom H sq)
    refine codeAny_mono ran fun r s' h => ?_
    match r, h with
    | .error _, h => exact False.elim h
    | .ok .next, h => exact False.elim h
    | .ok .brk, h => exact False.elim h
    | .ok .cont, h => exact False.elim h
    | .ok (.ret u), ⟨v, H', os, bare, un, hok', r', q⟩ =>
      obtain rfl : v = .bl true := q
      obtain rfl : u = Value.bool true := r'
      refine ⟨rfl, .of_keep fun b o e => ?_, os, bare⟩
      rcases hOn b with z | ⟨ob, xs, z⟩
      · exact un.keep b o e z (fun y => absurd (show b ∈ ([] : List Addr) from y) List.not_mem_nil) (by simp)
      · obtain ⟨e2, _⟩ := hok' b _ (un.frzs b ob _ z)
        obtain ⟨e1, _⟩ := hok b _ z
        rw [e] at e1
        cases e1
        exact e2
  cases own : K.lookup a with
  | some o =>
    have e := (inK a o own).symm.trans at_a
    cases e
    exact mid (fun _ => none) (fun _ => .inl rfl) (.inr ⟨_, us.toArray, _, own, rfl, rfl, rfl, by rw [List.size_toArray, sizes]; exact hl, by simpa using itv⟩) (fun b u z => absurd (show (none : Option HO) = some u from z) (fun y => by cases y)) (fun b z => absurd rfl z) fun z => absurd rfl z
  | none =>
    have key : ∀ b u, (if b = a then some (HO.frz { cls := .type "list", data := .seq us.toArray } (.lst (ns.map V.int))) else none) = some u → b = a ∧ u = .frz { cls := .type "list", data := .seq us.toArray } (.lst (ns.map V.int)) := fun b u z => by
      split at z
      · rename_i hb
        cases z
        exact ⟨hb, rfl⟩
      · cases z
    refine mid (fun b => if b = a then some (.frz { cls := .type "list", data := .seq us.toArray } (.lst (ns.map V.int))) else none) (fun b => ?_) (.inl (.inr ⟨{ cls := .type "list", data := .seq us.toArray }, if_pos rfl⟩)) (fun b u z => ?_) (fun b z => ?_) fun _ => own
    · dsimp only
      split
      · exact .inr ⟨_, _, rfl⟩
      · exact .inl rfl
    · obtain ⟨rfl, rfl⟩ := key b u z
      exact ⟨at_a, by rw [List.length_map]; exact hl, us, _, itv, at_a⟩
    · refine Decidable.byContradiction fun n => z ?_
      exact if_neg n
/-- the same as an end of a row -/
theorem walk_law {l : PySem.W.OpenLaw} {n k : Nat} {q : Program} {loose : List Str} {XP : (Str → Option Value) → Heap → Prop} {YP : World → Heap → Prop} {d : DefRec} {K : Params → PySem.W.Frag} {sp : PySem.W.Frag → Sp} {x : Str}
    (most : l.most = some n) (small : n ≤ sizeLine) (nodef : d.params.defaults = []) (room : Room k callerA) (noimp : importsNone q = true) (toK : ∀ (w : World) (h : Heap), YP w h → (K w.params).In h)
    (F : ∀ (w : World) (mg : Str → Option Value) (fa : Addr) (h : Heap), (K w.params).In h → h.Ns mainGlobals mg → mg d.name = some (.ref fa) → ∃ fd : FuncData, (∀ (s : Shared) (u : Value), BindsTo s fd ⟨[u], []⟩ [(x, u)]) ∧
      ∀ base : Heap, (K w.params).In base → base.Ns mainGlobals mg → base.NoSeer → FnOk l.prog w (K w.params) mg base CX0 k fa fd [x] (sp (K w.params)))
    (prom : ∀ (w : World) (H : Hp) (a : Addr) (ns : List Int), ns.length ≤ n → SqL (K w.params) H a (ns.map V.int) → sp (K w.params) [.ref a] H (fun v _ => v = .bl true) fun _ _ _ => False) : PySem.W.WalkO q loose XP YP l.row.toRowW d [] (fun f vs => PySem.call f vs) :=
  Att.attach_callB most nodef fun w s0 t mg mb fa o pm cd doc a us ns Gr Y ho hd hcd hmg hobj hints hlen hbits hg => by
    obtain ⟨fd, bnd, hF⟩ := F w mg fa _ (toK w _ Y) Gr.T.g hmg
    exact run_law (toK w _ Y) Gr.T.g Gr.T.b Gr.T.builtins Gr.T.nolimit hg (Gr.T.seer noimp) hobj hints (Nat.le_trans hlen small) room hF bnd fun H => prom w H a ns hlen
end G
end
section
set_option Elab.async false
set_option linter.all false
set_option maxRecDepth 100000
namespace G
open PySem L2 PyProof.Rows
section
variable {σ : L2.St} {H : Hp} {Q : VK} {K : PySem.W.Frag}
theorem v_meth {C : Addr} {m : Str} {sp : Sp} {dvs : List V} {E : XK} {ta : TE} {t : TA} (h : ta σ H fun x H1 => ∃ a dx fs, x = .ref a ∧ H1 a = some (.ins C dx fs) ∧ fs.lookup m = none ∧ t σ H1 fun vs H2 => sp (x :: (vs ++ dvs)) H2 Q E) : tMeth C m sp dvs E ta t σ H Q := h
theorem v_make {C : Addr} {sp : Sp} {dvs : List V} {E : XK} {t : TA} (h : t σ H fun vs H1 => ∀ x dx, H1 x = none → H1 dx = none → dx ≠ x → sp (.ref x :: (vs ++ dvs)) (upd (upd H1 dx (.own x)) x (.ins C dx [])) (fun v H2 => v = .non ∧ Q (.ref x) H2) E) : tMake C sp dvs E t σ H Q := h
theorem w_neBB {a b : Bool} (q : Q (.bl (decide (a ≠ b))) H) : rNe (.bl a) (.bl b) H Q := ⟨rfl, by
  have e : (!decide (V.bl a = V.bl b)) = decide (a ≠ b) := by simp
  rw [e]
  exact q⟩
theorem w_eqBB {a b : Bool} (q : Q (.bl (decide (a = b))) H) : rEq (.bl a) (.bl b) H Q := ⟨rfl, by
  have e : decide (V.bl a = V.bl b) = decide (a = b) := by simp
  rw [e]
  exact q⟩
theorem w_gtup2 {t : Addr} {x y : V} {i j : Nat} {R : L2.St → Hp → Prop} (h : H t = some (.tup [x, y])) (q : R ((σ.set i (some x)).set j (some y)) H) : gTup K 2 (gCons (gName i) (gCons (gName j) gNil)) (.ref t) σ H R :=
  ⟨t, [x, y], rfl, SqT.of h, rfl, x, [y], rfl, y, [], rfl, rfl, q⟩
theorem w_gtup4 {t : Addr} {x y z u : V} {i j k l : Nat} {R : L2.St → Hp → Prop} (h : H t = some (.tup [x, y, z, u])) (q : R ((((σ.set i (some x)).set j (some y)).set k (some z)).set l (some u)) H) : gTup K 4 (gCons (gName i) (gCons (gName j) (gCons (gName k) (gCons (gName l) gNil)))) (.ref t) σ H R :=
  ⟨t, [x, y, z, u], rfl, SqT.of h, rfl, x, [y, z, u], rfl, y, [z, u], rfl, z, [u], rfl, u, [], rfl, rfl, q⟩
end
section
variable {H : Hp} {Q : VK}
theorem if_post {c : TT} {ta tb : TE} {σ : L2.St} (T : V → Hp → Prop) (hq : ∀ x H', T x H' → Q x H') (h : ∀ Q' : VK, (∀ x H', T x H' → Q' x H') → tIf c ta tb σ H Q') : tIf c ta tb σ H Q := h Q hq
theorem w_notB {a b : Bool} (q : Q (.bl (!decide (a = b))) H) : rNotB (.bl a) (.bl b) H Q := ⟨a, b, rfl, rfl, q⟩
theorem not_dom {H : Hp} {q : Addr} (n : H q = none) : ¬ dom H q := fun h => h n
theorem dom_upd {l a : Addr} {o : HO} (h : dom H a) : dom (upd H l o) a := by
  by_cases e : a = l
  · rw [e]
    exact dom_of upd_same
  · unfold dom
    rw [upd_ne e]
    exact h
end
def ipMulI : TIp := fun x y H Q => rMulI x y H Q
theorem iop_mulG {X : Cx} : OpR X (inplaceOp .Mult) rMulI := opI fun _ _ _ _ _ _ _ hc q => imul_int q hc.ok
theorem ip_mulG {X : Cx} : PIp X .Mult ipMulI := fun pins s σ H x y v u Q I r1 r2 h => iop_mulG pins s σ H x y v u Q I r1 r2 h
theorem w_ipMul {i j : Int} {H : Hp} {Q : VK} (c : CMulG i j) (q : Q (.int (i * j)) H) : ipMulI (.int i) (.int j) H Q := ⟨i, j, rfl, rfl, c, q⟩
end G
end
section
set_option Elab.async false
set_option linter.all false
set_option maxRecDepth 100000
namespace G
open PySem L2 PyProof.Rows
theorem tv_16 {a0 a1 a2 a3 a4 a5 a6 a7 a8 a9 a10 a11 a12 a13 a14 a15 : Option V} {v : V} {σ : L2.St} {H : Hp} {Q : VK} (q : Q v H) : tVar 16 (a0 :: a1 :: a2 :: a3 :: a4 :: a5 :: a6 :: a7 :: a8 :: a9 :: a10 :: a11 :: a12 :: a13 :: a14 :: a15 :: some v :: σ) H Q := ⟨v, rfl, q⟩
theorem nv_16 {a0 a1 a2 a3 a4 a5 a6 a7 a8 a9 a10 a11 a12 a13 a14 a15 : Option V} {a : Option V} {v : V} {σ : L2.St} {H : Hp} {R : L2.St → Hp → Prop} (h : R (a0 :: a1 :: a2 :: a3 :: a4 :: a5 :: a6 :: a7 :: a8 :: a9 :: a10 :: a11 :: a12 :: a13 :: a14 :: a15 :: some v :: σ) H) : gName 16 v (a0 :: a1 :: a2 :: a3 :: a4 :: a5 :: a6 :: a7 :: a8 :: a9 :: a10 :: a11 :: a12 :: a13 :: a14 :: a15 :: a :: σ) H R := h
theorem av_16 {a0 a1 a2 a3 a4 a5 a6 a7 a8 a9 a10 a11 a12 a13 a14 a15 : Option V} {x : V} {σ : L2.St} {H : Hp} {te : TE} {ti : TIp} {nx bk ct : L2.St → Hp → Prop} {rt : VK} (q : te (a0 :: a1 :: a2 :: a3 :: a4 :: a5 :: a6 :: a7 :: a8 :: a9 :: a10 :: a11 :: a12 :: a13 :: a14 :: a15 :: some x :: σ) H fun y H1 => ti x y H1 fun z H2 => nx (a0 :: a1 :: a2 :: a3 :: a4 :: a5 :: a6 :: a7 :: a8 :: a9 :: a10 :: a11 :: a12 :: a13 :: a14 :: a15 :: some z :: σ) H2) : tAug 16 te ti ⟨nx, rt, bk, ct⟩ (a0 :: a1 :: a2 :: a3 :: a4 :: a5 :: a6 :: a7 :: a8 :: a9 :: a10 :: a11 :: a12 :: a13 :: a14 :: a15 :: some x :: σ) H := ⟨x, rfl, q⟩
theorem tv_17 {a0 a1 a2 a3 a4 a5 a6 a7 a8 a9 a10 a11 a12 a13 a14 a15 a16 : Option V} {v : V} {σ : L2.St} {H : Hp} {Q : VK} (q : Q v H) : tVar 17 (a0 :: a1 :: a2 :: a3 :: a4 :: a5 :: a6 :: a7 :: a8 :: a9 :: a10 :: a11 :: a12 :: a13 :: a14 :: a15 :: a16 :: some v :: σ) H Q := ⟨v, rfl, q⟩
theorem nv_17 {a0 a1 a2 a3 a4 a5 a6 a7 a8 a9 a10 a11 a12 a13 a14 a15 a16 : Option V} {a : Option V} {v : V} {σ : L2.St} {H : Hp} {R : L2.St → Hp → Prop} (h : R (a0 :: a1 :: a2 :: a3 :: a4 :: a5 :: a6 :: a7 :: a8 :: a9 :: a10 :: a11 :: a12 :: a13 :: a14 :: a15 :: a16 :: some v :: σ) H) : gName 17 v (a0 :: a1 :: a2 :: a3 :: a4 :: a5 :: a6 :: a7 :: a8 :: a9 :: a10 :: a11 :: a12 :: a13 :: a14 :: a15 :: a16 :: a :: σ) H R := h
theorem av_17 {a0 a1 a2 a3 a4 a5 a6 a7 a8 a9 a10 a11 a12 a13 a14 a15 a16 : Option V} {x : V} {σ : L2.St} {H : Hp} {te : TE} {ti : TIp} {nx bk ct : L2.St → Hp → Prop} {rt : VK} (q : te (a0 :: a1 :: a2 :: a3 :: a4 :: a5 :: a6 :: a7 :: a8 :: a9 :: a10 :: a11 :: a12 :: a13 :: a14 :: a15 :: a16 :: some x :: σ) H fun y H1 => ti x y H1 fun z H2 => nx (a0 :: a1 :: a2 :: a3 :: a4 :: a5 :: a6 :: a7 :: a8 :: a9 :: a10 :: a11 :: a12 :: a13 :: a14 :: a15 :: a16 :: some z :: σ) H2) : tAug 17 te ti ⟨nx, rt, bk, ct⟩ (a0 :: a1 :: a2 :: a3 :: a4 :: a5 :: a6 :: a7 :: a8 :: a9 :: a10 :: a11 :: a12 :: a13 :: a14 :: a15 :: a16 :: some x :: σ) H := ⟨x, rfl, q⟩
theorem tv_18 {a0 a1 a2 a3 a4 a5 a6 a7 a8 a9 a10 a11 a12 a13 a14 a15 a16 a17 : Option V} {v : V} {σ : L2.St} {H : Hp} {Q : VK} (q : Q v H) : tVar 18 (a0 :: a1 :: a2 :: a3 :: a4 :: a5 :: a6 :: a7 :: a8 :: a9 :: a10 :: a11 :: a12 :: a13 :: a14 :: a15 :: a16 :: a17 :: some v :: σ) H Q := ⟨v, rfl, q⟩
theorem nv_18 {a0 a1 a2 a3 a4 a5 a6 a7 a8 a9 a10 a11 a12 a13 a14 a15 a16 a17 : Option V} {a : Option V} {v : V} {σ : L2.St} {H : Hp} {R : L2.St → Hp → Prop} (h : R (a0 :: a1 :: a2 :: a3 :: a4 :: a5 :: a6 :: a7 :: a8 :: a9 :: a10 :: a11 :: a12 :: a13 :: a14 :: a15 :: a16 :: a17 :: some v :: σ) H) : gName 18 v (a0 :: a1 :: a2 :: a3 :: a4 :: a5 :: a6 :: a7 :: a8 :: a9 :: a10 :: a11 :: a12 :: a13 :: a14 :: a15 :: a16 :: a17 :: a :: σ) H R := h
theorem av_18 {a0 a1 a2 a3 a4 a5 a6 a7 a8 a9 a10 a11 a12 a13 a14 a15 a16 a17 : Option V} {x : V} {σ : L2.St} {H : Hp} {te : TE} {ti : TIp} {nx bk ct : L2.St → Hp → Prop} {rt : VK} (q : te (a0 :: a1 :: a2 :: a3 :: a4 :: a5 :: a6 :: a7 :: a8 :: a9 :: a10 :: a11 :: a12 :: a13 :: a14 :: a15 :: a16 :: a17 :: some x :: σ) H fun y H1 => ti x y H1 fun z H2 => nx (a0 :: a1 :: a2 :: a3 :: a4 :: a5 :: a6 :: a7 :: a8 :: a9 :: a10 :: a11 :: a12 :: a13 :: a14 :: a15 :: a16 :: a17 :: some z :: σ) H2) : tAug 18 te ti ⟨nx, rt, bk, ct⟩ (a0 :: a1 :: a2 :: a3 :: a4 :: a5 :: a6 :: a7 :: a8 :: a9 :: a10 :: a11 :: a12 :: a13 :: a14 :: a15 :: a16 :: a17 :: some x :: σ) H := ⟨x, rfl, q⟩
theorem tv_19 {a0 a1 a2 a3 a4 a5 a6 a7 a8 a9 a10 a11 a12 a13 a14 a15 a16 a17 a18 : Option V} {v : V} {σ : L2.St} {H : Hp} {Q : VK} (q : Q v H) : tVar 19 (a0 :: a1 :: a2 :: a3 :: a4 :: a5 :: a6 :: a7 :: a8 :: a9 :: a10 :: a11 :: a12 :: a13 :: a14 :: a15 :: a16 :: a17 :: a18 :: some v :: σ) H Q := ⟨v, rfl, q⟩
theorem nv_19 {a0 a1 a2 a3 a4 a5 a6 a7 a8 a9 a10 a11 a12 a13 a14 a15 a16 a17 a18 : Option V} {a : Option V} {v : V} {σ : L2.St} {H : Hp} {R : L2.St → Hp → Prop} (h : R (a0 :: a1 :: a2 :: a3 :: a4 :: a5 :: a6 :: a7 :: a8 :: a9 :: a10 :: a11 :: a12 :: a13 :: a14 :: a15 :: a16 :: a17 :: a18 :: some v :: σ) H) : gName 19 v (a0 :: a1 :: a2 :: a3 :: a4 :: a5 :: a6 :: a7 :: a8 :: a9 :: a10 :: a11 :: a12 :: a13 :: a14 :: a15 :: a16 :: a17 :: a18 :: a :: σ) H R := h
theorem av_19 {a0 a1 a2 a3 a4 a5 a6 a7 a8 a9 a10 a11 a12 a13 a14 a15 a16 a17 a18 : Option V} {x : V} {σ : L2.St} {H : Hp} {te : TE} {ti : TIp} {nx bk ct : L2.St → Hp → Prop} {rt : VK} (q : te (a0 :: a1 :: a2 :: a3 :: a4 :: a5 :: a6 :: a7 :: a8 :: a9 :: a10 :: a11 :: a12 :: a13 :: a14 :: a15 :: a16 :: a17 :: a18 :: some x :: σ) H fun y H1 => ti x y H1 fun z H2 => nx (a0 :: a1 :: a2 :: a3 :: a4 :: a5 :: a6 :: a7 :: a8 :: a9 :: a10 :: a11 :: a12 :: a13 :: a14 :: a15 :: a16 :: a17 :: a18 :: some z :: σ) H2) : tAug 19 te ti ⟨nx, rt, bk, ct⟩ (a0 :: a1 :: a2 :: a3 :: a4 :: a5 :: a6 :: a7 :: a8 :: a9 :: a10 :: a11 :: a12 :: a13 :: a14 :: a15 :: a16 :: a17 :: a18 :: some x :: σ) H := ⟨x, rfl, q⟩
theorem tv_20 {a0 a1 a2 a3 a4 a5 a6 a7 a8 a9 a10 a11 a12 a13 a14 a15 a16 a17 a18 a19 : Option V} {v : V} {σ : L2.St} {H : Hp} {Q : VK} (q : Q v H) : tVar 20 (a0 :: a1 :: a2 :: a3 :: a4 :: a5 :: a6 :: a7 :: a8 :: a9 :: a10 :: a11 :: a12 :: a13 :: a14 :: a15 :: a16 :: a17 :: a18 :: a19 :: some v :: σ) H Q := ⟨v, rfl, q⟩
theorem nv_20 {a0 a1 a2 a3 a4 a5 a6 a7 a8 a9 a10 a11 a12 a13 a14 a15 a16 a17 a18 a19 : Option V} {a : Option V} {v : V} {σ : L2.St} {H : Hp} {R : L2.St → Hp → Prop} (h : R (a0 :: a1 :: a2 :: a3 :: a4 :: a5 :: a6 :: a7 :: a8 :: a9 :: a10 :: a11 :: a12 :: a13 :: a14 :: a15 :: a16 :: a17 :: a18 :: a19 :: some v :: σ) H) : gName 20 v (a0 :: a1 :: a2 :: a3 :: a4 :: a5 :: a6 :: a7 :: a8 :: a9 :: a10 :: a11 :: a12 :: a13 :: a14 :: a15 :: a16 :: a17 :: a18 :: a19 :: a :: σ) H R := h
theorem av_20 {a0 a1 a2 a3 a4 a5 a6 a7 a8 a9 a10 a11 a12 a13 a14 a15 a16 a17 a18 a19 : Option V} {x : V} {σ : L2.St} {H : Hp} {te : TE} {ti : TIp} {nx bk ct : L2.St → Hp → Prop} {rt : VK} (q : te (a0 :: a1 :: a2 :: a3 :: a4 :: a5 :: a6 :: a7 :: a8 :: a9 :: a10 :: a11 :: a12 :: a13 :: a14 :: a15 :: a16 :: a17 :: a18 :: a19 :: some x :: σ) H fun y H1 => ti x y H1 fun z H2 => nx (a0 :: a1 :: a2 :: a3 :: a4 :: a5 :: a6 :: a7 :: a8 :: a9 :: a10 :: a11 :: a12 :: a13 :: a14 :: a15 :: a16 :: a17 :: a18 :: a19 :: some z :: σ) H2) : tAug 20 te ti ⟨nx, rt, bk, ct⟩ (a0 :: a1 :: a2 :: a3 :: a4 :: a5 :: a6 :: a7 :: a8 :: a9 :: a10 :: a11 :: a12 :: a13 :: a14 :: a15 :: a16 :: a17 :: a18 :: a19 :: some x :: σ) H := ⟨x, rfl, q⟩
theorem tv_21 {a0 a1 a2 a3 a4 a5 a6 a7 a8 a9 a10 a11 a12 a13 a14 a15 a16 a17 a18 a19 a20 : Option V} {v : V} {σ : L2.St} {H : Hp} {Q : VK} (q : Q v H) : tVar 21 (a0 :: a1 :: a2 :: a3 :: a4 :: a5 :: a6 :: a7 :: a8 :: a9 :: a10 :: a11 :: a12 :: a13 :: a14 :: a15 :: a16 :: a17 :: a18 :: a19 :: a20 :: some v :: σ) H Q := ⟨v, rfl, q⟩
theorem nv_21 {a0 a1 a2 a3 a4 a5 a6 a7 a8 a9 a10 a11 a12 a13 a14 a15 a16 a17 a18 a19 a20 : Option V} {a : Option V} {v : V} {σ : L2.St} {H : Hp} {R : L2.St → Hp → Prop} (h : R (a0 :: a1 :: a2 :: a3 :: a4 :: a5 :: a6 :: a7 :: a8 :: a9 :: a10 :: a11 :: a12 :: a13 :: a14 :: a15 :: a16 :: a17 :: a18 :: a19 :: a20 :: some v :: σ) H) : gName 21 v (a0 :: a1 :: a2 :: a3 :: a4 :: a5 :: a6 :: a7 :: a8 :: a9 :: a10 :: a11 :: a12 :: a13 :: a14 :: a15 :: a16 :: a17 :: a18 :: a19 :: a20 :: a :: σ) H R := h
theorem av_21 {a0 a1 a2 a3 a4 a5 a6 a7 a8 a9 a10 a11 a12 a13 a14 a15 a16 a17 a18 a19 a20 : Option V} {x : V} {σ : L2.St} {H : Hp} {te : TE} {ti : TIp} {nx bk ct : L2.St → Hp → Prop} {rt : VK} (q : te (a0 :: a1 :: a2 :: a3 :: a4 :: a5 :: a6 :: a7 :: a8 :: a9 :: a10 :: a11 :: a12 :: a13 :: a14 :: a15 :: a16 :: a17 :: a18 :: a19 :: a20 :: some x :: σ) H fun y H1 => ti x y H1 fun z H2 => nx (a0 :: a1 :: a2 :: a3 :: a4 :: a5 :: a6 :: a7 :: a8 :: a9 :: a10 :: a11 :: a12 :: a13 :: a14 :: a15 :: a16 :: a17 :: a18 :: a19 :: a20 :: some z :: σ) H2) : tAug 21 te ti ⟨nx, rt, bk, ct⟩ (a0 :: a1 :: a2 :: a3 :: a4 :: a5 :: a6 :: a7 :: a8 :: a9 :: a10 :: a11 :: a12 :: a13 :: a14 :: a15 :: a16 :: a17 :: a18 :: a19 :: a20 :: some x :: σ) H := ⟨x, rfl, q⟩
theorem tv_22 {a0 a1 a2 a3 a4 a5 a6 a7 a8 a9 a10 a11 a12 a13 a14 a15 a16 a17 a18 a19 a20 a21 : Option V} {v : V} {σ : L2.St} {H : Hp} {Q : VK} (q : Q v H) : tVar 22 (a0 :: a1 :: a2 :: a3 :: a4 :: a5 :: a6 :: a7 :: a8 :: a9 :: a10 :: a11 :: a12 :: a13 :: a14 :: a15 :: a16 :: a17 :: a18 :: a19 :: a20 :: a21 :: some v :: σ) H Q := ⟨v, rfl, q⟩
theorem nv_22 {a0 a1 a2 a3 a4 a5 a6 a7 a8 a9 a10 a11 a12 a13 a14 a15 a16 a17 a18 a19 a20 a21 : Option V} {a : Option V} {v : V} {σ : L2.St} {H : Hp} {R : L2.St → Hp → Prop} (h : R (a0 :: a1 :: a2 :: a3 :: a4 :: a5 :: a6 :: a7 :: a8 :: a9 :: a10 :: a11 :: a12 :: a13 :: a14 :: a15 :: a16 :: a17 :: a18 :: a19 :: a20 :: a21 :: some v :: σ) H) : gName 22 v (a0 :: a1 :: a2 :: a3 :: a4 :: a5 :: a6 :: a7 :: a8 :: a9 :: a10 :: a11 :: a12 :: a13 :: a14 :: a15 :: a16 :: a17 :: a18 :: a19 :: a20 :: a21 :: a :: σ) H R := h
theorem av_22 {a0 a1 a2 a3 a4 a5 a6 a7 a8 a9 a10 a11 a12 a13 a14 a15 a16 a17 a18 a19 a20 a21 : Option V} {x : V} {σ : L2.St} {H : Hp} {te : TE} {ti : TIp} {nx bk ct : L2.St → Hp → Prop} {rt : VK} (q : te (a0 :: a1 :: a2 :: a3 :: a4 :: a5 :: a6 :: a7 :: a8 :: a9 :: a10 :: a11 :: a12 :: a13 :: a14 :: a15 :: a16 :: a17 :: a18 :: a19 :: a20 :: a21 :: some x :: σ) H fun y H1 => ti x y H1 fun z H2 => nx (a0 :: a1 :: a2 :: a3 :: a4 :: a5 :: a6 :: a7 :: a8 :: a9 :: a10 :: a11 :: a12 :: a13 :: a14 :: a15 :: a16 :: a17 :: a18 :: a19 :: a20 :: a21 :: some z :: σ) H2) : tAug 22 te ti ⟨nx, rt, bk, ct⟩ (a0 :: a1 :: a2 :: a3 :: a4 :: a5 :: a6 :: a7 :: a8 :: a9 :: a10 :: a11 :: a12 :: a13 :: a14 :: a15 :: a16 :: a17 :: a18 :: a19 :: a20 :: a21 :: some x :: σ) H := ⟨x, rfl, q⟩
theorem tv_23 {a0 a1 a2 a3 a4 a5 a6 a7 a8 a9 a10 a11 a12 a13 a14 a15 a16 a17 a18 a19 a20 a21 a22 : Option V} {v : V} {σ : L2.St} {H : Hp} {Q : VK} (q : Q v H) : tVar 23 (a0 :: a1 :: a2 :: a3 :: a4 :: a5 :: a6 :: a7 :: a8 :: a9 :: a10 :: a11 :: a12 :: a13 :: a14 :: a15 :: a16 :: a17 :: a18 :: a19 :: a20 :: a21 :: a22 :: some v :: σ) H Q := ⟨v, rfl, q⟩
theorem nv_23 {a0 a1 a2 a3 a4 a5 a6 a7 a8 a9 a10 a11 a12 a13 a14 a15 a16 a17 a18 a19 a20 a21 a22 : Option V} {a : Option V} {v : V} {σ : L2.St} {H : Hp} {R : L2.St → Hp → Prop} (h : R (a0 :: a1 :: a2 :: a3 :: a4 :: a5 :: a6 :: a7 :: a8 :: a9 :: a10 :: a11 :: a12 :: a13 :: a14 :: a15 :: a16 :: a17 :: a18 :: a19 :: a20 :: a21 :: a22 :: some v :: σ) H) : gName 23 v (a0 :: a1 :: a2 :: a3 :: a4 :: a5 :: a6 :: a7 :: a8 :: a9 :: a10 :: a11 :: a12 :: a13 :: a14 :: a15 :: a16 :: a17 :: a18 :: a19 :: a20 :: a21 :: a22 :: a :: σ) H R := h
theorem av_23 {a0 a1 a2 a3 a4 a5 a6 a7 a8 a9 a10 a11 a12 a13 a14 a15 a16 a17 a18 a19 a20 a21 a22 : Option V} {x : V} {σ : L2.St} {H : Hp} {te : TE} {ti : TIp} {nx bk ct : L2.St → Hp → Prop} {rt : VK} (q : te (a0 :: a1 :: a2 :: a3 :: a4 :: a5 :: a6 :: a7 :: a8 :: a9 :: a10 :: a11 :: a12 :: a13 :: a14 :: a15 :: a16 :: a17 :: a18 :: a19 :: a20 :: a21 :: a22 :: some x :: σ) H fun y H1 => ti x y H1 fun z H2 => nx (a0 :: a1 :: a2 :: a3 :: a4 :: a5 :: a6 :: a7 :: a8 :: a9 :: a10 :: a11 :: a12 :: a13 :: a14 :: a15 :: a16 :: a17 :: a18 :: a19 :: a20 :: a21 :: a22 :: some z :: σ) H2) : tAug 23 te ti ⟨nx, rt, bk, ct⟩ (a0 :: a1 :: a2 :: a3 :: a4 :: a5 :: a6 :: a7 :: a8 :: a9 :: a10 :: a11 :: a12 :: a13 :: a14 :: a15 :: a16 :: a17 :: a18 :: a19 :: a20 :: a21 :: a22 :: some x :: σ) H := ⟨x, rfl, q⟩
theorem tv_24 {a0 a1 a2 a3 a4 a5 a6 a7 a8 a9 a10 a11 a12 a13 a14 a15 a16 a17 a18 a19 a20 a21 a22 a23 : Option V} {v : V} {σ : L2.St} {H : Hp} {Q : VK} (q : Q v H) : tVar 24 (a0 :: a1 :: a2 :: a3 :: a4 :: a5 :: a6 :: a7 :: a8 :: a9 :: a10 :: a11 :: a12 :: a13 :: a14 :: a15 :: a16 :: a17 :: a18 :: a19 :: a20 :: a21 :: a22 :: a23 :: some v :: σ) H Q := ⟨v, rfl, q⟩
theorem nv_24 {a0 a1 a2 a3 a4 a5 a6 a7 a8 a9 a10 a11 a12 a13 a14 a15 a16 a17 a18 a19 a20 a21 a22 a23 : Option V} {a : Option V} {v : V} {σ : L2.St} {H : Hp} {R : L2.St → Hp → Prop} (h : R (a0 :: a1 :: a2 :: a3 :: a4 :: a5 :: a6 :: a7 :: a8 :: a9 :: a10 :: a11 :: a12 :: a13 :: a14 :: a15 :: a16 :: a17 :: a18 :: a19 :: a20 :: a21 :: a22 :: a23 :: some v :: σ) H) : gName 24 v (a0 :: a1 :: a2 :: a3 :: a4 :: a5 :: a6 :: a7 :: a8 :: a9 :: a10 :: a11 :: a12 :: a13 :: a14 :: a15 :: a16 :: a17 :: a18 :: a19 :: a20 :: a21 :: a22 :: a23 :: a :: σ) H R := h
theorem av_24 {a0 a1 a2 a3 a4 a5 a6 a7 a8 a9 a10 a11 a12 a13 a14 a15 a16 a17 a18 a19 a20 a21 a22 a23 : Option V} {x : V} {σ : L2.St} {H : Hp} {te : TE} {ti : TIp} {nx bk ct : L2.St → Hp → Prop} {rt : VK} (q : te (a0 :: a1 :: a2 :: a3 :: a4 :: a5 :: a6 :: a7 :: a8 :: a9 :: a10 :: a11 :: a12 :: a13 :: a14 :: a15 :: a16 :: a17 :: a18 :: a19 :: a20 :: a21 :: a22 :: a23 :: some x :: σ) H fun y H1 => ti x y H1 fun z H2 => nx (a0 :: a1 :: a2 :: a3 :: a4 :: a5 :: a6 :: a7 :: a8 :: a9 :: a10 :: a11 :: a12 :: a13 :: a14 :: a15 :: a16 :: a17 :: a18 :: a19 :: a20 :: a21 :: a22 :: a23 :: some z :: σ) H2) : tAug 24 te ti ⟨nx, rt, bk, ct⟩ (a0 :: a1 :: a2 :: a3 :: a4 :: a5 :: a6 :: a7 :: a8 :: a9 :: a10 :: a11 :: a12 :: a13 :: a14 :: a15 :: a16 :: a17 :: a18 :: a19 :: a20 :: a21 :: a22 :: a23 :: some x :: σ) H := ⟨x, rfl, q⟩
theorem tv_25 {a0 a1 a2 a3 a4 a5 a6 a7 a8 a9 a10 a11 a12 a13 a14 a15 a16 a17 a18 a19 a20 a21 a22 a23 a24 : Option V} {v : V} {σ : L2.St} {H : Hp} {Q : VK} (q : Q v H) : tVar 25 (a0 :: a1 :: a2 :: a3 :: a4 :: a5 :: a6 :: a7 :: a8 :: a9 :: a10 :: a11 :: a12 :: a13 :: a14 :: a15 :: a16 :: a17 :: a18 :: a19 :: a20 :: a21 :: a22 :: a23 :: a24 :: some v :: σ) H Q := ⟨v, rfl, q⟩
theorem nv_25 {a0 a1 a2 a3 a4 a5 a6 a7 a8 a9 a10 a11 a12 a13 a14 a15 a16 a17 a18 a19 a20 a21 a22 a23 a24 : Option V} {a : Option V} {v : V} {σ : L2.St} {H : Hp} {R : L2.St → Hp → Prop} (h : R (a0 :: a1 :: a2 :: a3 :: a4 :: a5 :: a6 :: a7 :: a8 :: a9 :: a10 :: a11 :: a12 :: a13 :: a14 :: a15 :: a16 :: a17 :: a18 :: a19 :: a20 :: a21 :: a22 :: a23 :: a24 :: some v :: σ) H) : gName 25 v (a0 :: a1 :: a2 :: a3 :: a4 :: a5 :: a6 :: a7 :: a8 :: a9 :: a10 :: a11 :: a12 :: a13 :: a14 :: a15 :: a16 :: a17 :: a18 :: a19 :: a20 :: a21 :: a22 :: a23 :: a24 :: a :: σ) H R := h
theorem av_25 {a0 a1 a2 a3 a4 a5 a6 a7 a8 a9 a10 a11 a12 a13 a14 a15 a16 a17 a18 a19 a20 a21 a22 a23 a24 : Option V} {x : V} {σ : L2.St} {H : Hp} {te : TE} {ti : TIp} {nx bk ct : L2.St → Hp → Prop} {rt : VK} (q : te (a0 :: a1 :: a2 :: a3 :: a4 :: a5 :: a6 :: a7 :: a8 :: a9 :: a10 :: a11 :: a12 :: a13 :: a14 :: a15 :: a16 :: a17 :: a18 :: a19 :: a20 :: a21 :: a22 :: a23 :: a24 :: some x :: σ) H fun y H1 => ti x y H1 fun z H2 => nx (a0 :: a1 :: a2 :: a3 :: a4 :: a5 :: a6 :: a7 :: a8 :: a9 :: a10 :: a11 :: a12 :: a13 :: a14 :: a15 :: a16 :: a17 :: a18 :: a19 :: a20 :: a21 :: a22 :: a23 :: a24 :: some z :: σ) H2) : tAug 25 te ti ⟨nx, rt, bk, ct⟩ (a0 :: a1 :: a2 :: a3 :: a4 :: a5 :: a6 :: a7 :: a8 :: a9 :: a10 :: a11 :: a12 :: a13 :: a14 :: a15 :: a16 :: a17 :: a18 :: a19 :: a20 :: a21 :: a22 :: a23 :: a24 :: some x :: σ) H := ⟨x, rfl, q⟩
end G
end
section
set_option Elab.async false
set_option linter.all false
set_option maxRecDepth 100000
namespace G
open PySem L2 PyProof.Rows
local macro_rules | `(tactic| walk_at "rd") => `(tactic| repeat (first
  | (with_reducible refine v_seq ?_)
  | (with_reducible refine v_asg ?_)
  | (with_reducible refine w_cons ?_)
  | (with_reducible refine w_nil ?_)
  | (with_reducible refine w_op ?_)
  | (with_reducible refine w_c ?_)
  | (with_reducible refine w_I0 ?_)
  | (with_reducible refine w_cb ?_)
  | (with_reducible refine w_call ?_)
  | (with_reducible refine v_ret ?_)
  | (with_reducible refine v_next ?_)
  | (with_reducible refine w_ixR (by assumption) (by assumption) ?_)
  | (with_reducible refine w_ix (by assumption) (by assumption) ?_)
  | (with_reducible refine w_test ?_)
  | (with_reducible refine w_tB ?_)
  | (with_reducible refine w_and ?_)
  | (with_reducible refine w_or ?_)
  | (with_reducible refine w_not ?_)
  | (with_reducible refine w_ifE ?_)
  | (with_reducible refine v_ifS ?_)
  | (with_reducible refine w_tt ?_)
  | (with_reducible refine w_ff ?_)
  | (with_reducible refine w_eqI ?_)
  | (with_reducible refine w_neI ?_)
  | (with_reducible refine w_U ?_)
  | (with_reducible refine w_un ?_)
  | (with_reducible refine w_len (by assumption) ?_)
  | (with_reducible refine w_abs ?_)
  | (with_reducible refine w_int ?_)
  | (with_reducible refine w_isN0 ?_)
  | (with_reducible refine w_isN1 (by assumption) ?_)
  | (with_reducible refine w_isN1 ne_in ?_)
  | (with_reducible refine w_isN1 ne_rn ?_)
  | (with_reducible refine w_notN0 ?_)
  | (with_reducible refine w_notN1 ne_in ?_)
  | (with_reducible refine w_notN1 ne_rn ?_)
  | (with_reducible refine v_lst ?_)
  | (with_reducible refine v_tup ?_)
  | (with_reducible refine w_notN1 (by assumption) ?_)
  | (with_reducible refine v_drop ?_)
  | (with_reducible refine w_bm ?_)
  | (with_reducible refine v_for ?_)
  | (with_reducible refine v_rng1 ?_)
  | (with_reducible refine v_rng2 ?_)
  | (with_reducible refine v_list ?_)
  | (with_reducible refine w_sub ?_)
  | (with_reducible refine v_ip ?_)
  | (with_reducible refine v_augS ?_)
  | (with_reducible refine v_retN ?_)
  | (with_reducible refine w_yes ?_)
  | (with_reducible refine tv_0 ?_)
  | (with_reducible refine nv_0 ?_)
  | (with_reducible refine av_0 ?_)
  | (with_reducible refine tv_1 ?_)
  | (with_reducible refine nv_1 ?_)
  | (with_reducible refine av_1 ?_)
  | (with_reducible refine tv_2 ?_)
  | (with_reducible refine nv_2 ?_)
  | (with_reducible refine av_2 ?_)
  | (with_reducible refine tv_3 ?_)
  | (with_reducible refine nv_3 ?_)
  | (with_reducible refine av_3 ?_)
  | (with_reducible refine tv_4 ?_)
  | (with_reducible refine nv_4 ?_)
  | (with_reducible refine av_4 ?_)
  | (with_reducible refine tv_5 ?_)
  | (with_reducible refine nv_5 ?_)
  | (with_reducible refine av_5 ?_)
  | (with_reducible refine tv_6 ?_)
  | (with_reducible refine nv_6 ?_)
  | (with_reducible refine av_6 ?_)
  | (with_reducible refine tv_7 ?_)
  | (with_reducible refine nv_7 ?_)
  | (with_reducible refine av_7 ?_)
  | (with_reducible refine tv_8 ?_)
  | (with_reducible refine nv_8 ?_)
  | (with_reducible refine av_8 ?_)
  | (with_reducible refine tv_9 ?_)
  | (with_reducible refine nv_9 ?_)
  | (with_reducible refine av_9 ?_)
  | (with_reducible refine tv_10 ?_)
  | (with_reducible refine nv_10 ?_)
  | (with_reducible refine av_10 ?_)
  | (with_reducible refine tv_11 ?_)
  | (with_reducible refine nv_11 ?_)
  | (with_reducible refine av_11 ?_)
  | (with_reducible refine tv_12 ?_)
  | (with_reducible refine nv_12 ?_)
  | (with_reducible refine av_12 ?_)
  | (with_reducible refine tv_13 ?_)
  | (with_reducible refine nv_13 ?_)
  | (with_reducible refine av_13 ?_)
  | (with_reducible refine tv_14 ?_)
  | (with_reducible refine nv_14 ?_)
  | (with_reducible refine av_14 ?_)
  | (with_reducible refine tv_15 ?_)
  | (with_reducible refine nv_15 ?_)
  | (with_reducible refine av_15 ?_)
  | (with_reducible refine ⟨_, rfl, ⟨_, SqL.of (by assumption)⟩, ?_⟩)
  | (with_reducible refine ⟨_, rfl, (by omega), (by omega), ?_⟩)
  | (with_reducible refine ⟨w_tyL (by assumption), ?_⟩)
  | (with_reducible refine w_isiII ?_)
  | (with_reducible refine w_isiIB ?_)
  | (with_reducible refine w_isiBB ?_)
  | (with_reducible refine w_isiBI ?_)
  | (with_reducible refine w_isiNL ?_)
  | (with_reducible refine w_isiLL (by assumption) ?_)
  | (with_reducible refine v_sl ?_)
  | (with_reducible refine w_nff ?_)
  | (with_reducible refine w_ntt ?_)
  | (with_reducible refine v_chain ?_)
  | (with_reducible refine v_andV ?_)
  | (with_reducible refine v_orV ?_)
  | (with_reducible refine v_notV ?_)
  | (with_reducible refine v_noP ?_)
  | (with_reducible refine v_part ?_)
  | (with_reducible refine v_fld ?_)
  | (with_reducible refine v_sfld ?_)
  | (with_reducible refine ⟨_, (rfl : V.bl _ = V.bl _), ?_⟩)
  | (with_reducible refine ⟨_, (rfl : V.ref _ = V.ref _), ?_⟩)
  | (with_reducible refine ⟨_, (rfl : [V.int _] = [V.int _]), ?_⟩)
  | (with_reducible refine ⟨_, (rfl : V.int _ = V.int _), ?_⟩)
  | (with_reducible refine ⟨⟨_, SqL.of (by assumption)⟩, ?_⟩)
  | (with_reducible refine ⟨(by (first | omega | (rw [lenV]; omega)) : -(2 ^ 62) ≤ _), (by first | omega | (rw [lenV]; omega)), ?_⟩)
  ))
section
variable {Z : Ctx} {vs : List V} {H : Hp} {Q : VK} {E : XK}
/-- is_zero -/
def sp_is_zero (Z : Ctx) : Sp := fun vs H Q _ => ∃ v, ∃ r : Row, vs = [v] ∧ rep H v r ∧ ∀ H', Same H H' → Q (.bl (r.all (· == 0))) H'
abbrev r_is_zero (Z : Ctx) : TS := (tSeq (tFor (iList Z.K (tVar 0)) (gName 1) (tIfS (tTest (tOp rNe (tVar 1) (tC (.int 0)))) (tRet (tC (.bl false))) tNext)) (tRet (tC (.bl true))))
theorem ln_is_zero : sp_is_zero Z vs H Q E → vs.length = 1 := by rintro ⟨_, _, rfl, _⟩; rfl
abbrev nm_is_zero : List Str := ["row", "value"]
theorem rd_is_zero (h : sp_is_zero Z vs H Q E) : r_is_zero Z (ends Q) (L2.start nm_is_zero vs) H := by
  obtain ⟨v, r, rfl, hr, k⟩ := h
  obtain ⟨p, rfl, hp⟩ := rep_row.mp hr
  show r_is_zero Z (ends Q) [some (.ref p), none] H
  unfold r_is_zero ends
  walk_at "rd"
  refine forL (fun i σ H' => ∃ w, σ = [some (.ref p), w] ∧ H' = H ∧ ∀ z ∈ r.take i, z = 0) ⟨_, rfl, rfl, by simp⟩ (fun i σ H' _ ⟨w, e, h, _⟩ => h ▸ SqL.of hp) ?_ ?_
  · rintro i x σ H' hi ⟨w, rfl, rfl, ha⟩
    obtain ⟨z, hz, rfl⟩ := row_at hi
    walk_at "rd"
    refine w_ite (fun h => ?_) (fun h => ?_)
    · walk_at "rd"
      have e : r.all (· == 0) = false := by
        rw [List.all_eq_false]
        exact ⟨z, List.mem_of_getElem? hz, by simpa using h⟩
      rw [← e]
      exact k _ (Same.refl _)
    · walk_at "rd"
      refine ⟨_, rfl, rfl, fun y hy => ?_⟩
      rw [List.take_succ, hz] at hy
      rcases List.mem_append.mp hy with q | q
      · exact ha y q
      · simp at q
        omega
  · rintro σ H' ⟨w, rfl, rfl, ha⟩
    walk_at "rd"
    have e : r.all (· == 0) = true := by
      rw [List.all_eq_true]
      intro y hy
      rw [List.length_map, List.take_length] at ha
      simpa using ha y hy
    rw [← e]
    exact k _ (Same.refl _)
end
@[irreducible] def bigB : Nat := 11010048
theorem bigB_eq : bigB = 11010048 := by unfold bigB; rfl
end G
end
section
set_option Elab.async false
set_option linter.all false
set_option maxRecDepth 100000
namespace G
open PySem L2 PyProof.Rows
local macro_rules | `(tactic| walk_at "rd") => `(tactic| repeat (first
  | (with_reducible refine v_seq ?_)
  | (with_reducible refine v_asg ?_)
  | (with_reducible refine w_cons ?_)
  | (with_reducible refine w_nil ?_)
  | (with_reducible refine w_op ?_)
  | (with_reducible refine w_c ?_)
  | (with_reducible refine w_I0 ?_)
  | (with_reducible refine w_cb ?_)
  | (with_reducible refine w_call ?_)
  | (with_reducible refine v_ret ?_)
  | (with_reducible refine v_next ?_)
  | (with_reducible refine w_ixR (by assumption) (by assumption) ?_)
  | (with_reducible refine w_ix (by assumption) (by assumption) ?_)
  | (with_reducible refine w_test ?_)
  | (with_reducible refine w_tB ?_)
  | (with_reducible refine w_and ?_)
  | (with_reducible refine w_or ?_)
  | (with_reducible refine w_not ?_)
  | (with_reducible refine w_ifE ?_)
  | (with_reducible refine v_ifS ?_)
  | (with_reducible refine w_tt ?_)
  | (with_reducible refine w_ff ?_)
  | (with_reducible refine w_eqI ?_)
  | (with_reducible refine w_neI ?_)
  | (with_reducible refine w_U ?_)
  | (with_reducible refine w_un ?_)
  | (with_reducible refine w_len (by assumption) ?_)
  | (with_reducible refine w_abs ?_)
  | (with_reducible refine w_int ?_)
  | (with_reducible refine w_isN0 ?_)
  | (with_reducible refine w_isN1 (by assumption) ?_)
  | (with_reducible refine w_isN1 ne_in ?_)
  | (with_reducible refine w_isN1 ne_rn ?_)
  | (with_reducible refine w_notN0 ?_)
  | (with_reducible refine w_notN1 ne_in ?_)
  | (with_reducible refine w_notN1 ne_rn ?_)
  | (with_reducible refine v_lst ?_)
  | (with_reducible refine v_tup ?_)
  | (with_reducible refine w_notN1 (by assumption) ?_)
  | (with_reducible refine v_drop ?_)
  | (with_reducible refine w_bm ?_)
  | (with_reducible refine v_for ?_)
  | (with_reducible refine v_rng1 ?_)
  | (with_reducible refine v_rng2 ?_)
  | (with_reducible refine v_list ?_)
  | (with_reducible refine w_sub ?_)
  | (with_reducible refine v_ip ?_)
  | (with_reducible refine v_augS ?_)
  | (with_reducible refine v_retN ?_)
  | (with_reducible refine w_yes ?_)
  | (with_reducible refine tv_0 ?_)
  | (with_reducible refine nv_0 ?_)
  | (with_reducible refine av_0 ?_)
  | (with_reducible refine tv_1 ?_)
  | (with_reducible refine nv_1 ?_)
  | (with_reducible refine av_1 ?_)
  | (with_reducible refine tv_2 ?_)
  | (with_reducible refine nv_2 ?_)
  | (with_reducible refine av_2 ?_)
  | (with_reducible refine tv_3 ?_)
  | (with_reducible refine nv_3 ?_)
  | (with_reducible refine av_3 ?_)
  | (with_reducible refine tv_4 ?_)
  | (with_reducible refine nv_4 ?_)
  | (with_reducible refine av_4 ?_)
  | (with_reducible refine tv_5 ?_)
  | (with_reducible refine nv_5 ?_)
  | (with_reducible refine av_5 ?_)
  | (with_reducible refine tv_6 ?_)
  | (with_reducible refine nv_6 ?_)
  | (with_reducible refine av_6 ?_)
  | (with_reducible refine tv_7 ?_)
  | (with_reducible refine nv_7 ?_)
  | (with_reducible refine av_7 ?_)
  | (with_reducible refine tv_8 ?_)
  | (with_reducible refine nv_8 ?_)
  | (with_reducible refine av_8 ?_)
  | (with_reducible refine tv_9 ?_)
  | (with_reducible refine nv_9 ?_)
  | (with_reducible refine av_9 ?_)
  | (with_reducible refine tv_10 ?_)
  | (with_reducible refine nv_10 ?_)
  | (with_reducible refine av_10 ?_)
  | (with_reducible refine tv_11 ?_)
  | (with_reducible refine nv_11 ?_)
  | (with_reducible refine av_11 ?_)
  | (with_reducible refine tv_12 ?_)
  | (with_reducible refine nv_12 ?_)
  | (with_reducible refine av_12 ?_)
  | (with_reducible refine tv_13 ?_)
  | (with_reducible refine nv_13 ?_)
  | (with_reducible refine av_13 ?_)
  | (with_reducible refine tv_14 ?_)
  | (with_reducible refine nv_14 ?_)
  | (with_reducible refine av_14 ?_)
  | (with_reducible refine tv_15 ?_)
  | (with_reducible refine nv_15 ?_)
  | (with_reducible refine av_15 ?_)
  | (with_reducible refine ⟨_, rfl, ⟨_, SqL.of (by assumption)⟩, ?_⟩)
  | (with_reducible refine ⟨_, rfl, (by omega), (by omega), ?_⟩)
  | (with_reducible refine ⟨w_tyL (by assumption), ?_⟩)
  | (with_reducible refine w_isiII ?_)
  | (with_reducible refine w_isiIB ?_)
  | (with_reducible refine w_isiBB ?_)
  | (with_reducible refine w_isiBI ?_)
  | (with_reducible refine w_isiNL ?_)
  | (with_reducible refine w_isiLL (by assumption) ?_)
  | (with_reducible refine v_sl ?_)
  | (with_reducible refine w_nff ?_)
  | (with_reducible refine w_ntt ?_)
  | (with_reducible refine v_chain ?_)
  | (with_reducible refine v_andV ?_)
  | (with_reducible refine v_orV ?_)
  | (with_reducible refine v_notV ?_)
  | (with_reducible refine v_noP ?_)
  | (with_reducible refine v_part ?_)
  | (with_reducible refine v_fld ?_)
  | (with_reducible refine v_sfld ?_)
  | (with_reducible refine ⟨_, (rfl : V.bl _ = V.bl _), ?_⟩)
  | (with_reducible refine ⟨_, (rfl : V.ref _ = V.ref _), ?_⟩)
  | (with_reducible refine ⟨_, (rfl : [V.int _] = [V.int _]), ?_⟩)
  | (with_reducible refine ⟨_, (rfl : V.int _ = V.int _), ?_⟩)
  | (with_reducible refine ⟨⟨_, SqL.of (by assumption)⟩, ?_⟩)
  | (with_reducible refine ⟨(by (first | omega | (rw [lenV]; omega)) : -(2 ^ 62) ≤ _), (by first | omega | (rw [lenV]; omega)), ?_⟩)
  ))
section
variable {Z : Ctx} {vs : List V} {H : Hp} {Q : VK} {E : XK}
/-- rows -/
def sp_lessened_row (Z : Ctx) : Sp := fun vs H Q _ => ∃ v n u, ∃ r o : Row, vs = [v, .int n, u] ∧ rep H v r ∧ rep H u o ∧ r.length = o.length ∧ r.length ≤ 1000 ∧ (∀ i, CMulG n (at0 o i)) ∧ NewR H (less r n o) Q
abbrev r_lessened_row (Z : Ctx) : TS := (tRet (tLc (iRng1 (tCons (tCB (rLenG Z.K) (tCons (tVar 0) tNil)) tNil)) (gName 3) tYes (tOp rSubI (tOp (rIxG Z.K) (tVar 0) (tVar 3)) (tOp rMulI (tVar 1) (tOp (rIxG Z.K) (tVar 2) (tVar 3)))) [3]))
theorem ln_lessened_row : sp_lessened_row Z vs H Q E → vs.length = 3 := by rintro ⟨_, _, _, _, _, rfl, _⟩; rfl
abbrev nm_lessened_row : List Str := ["row", "number", "other", "at"]
theorem rd_lessened_row (h : sp_lessened_row Z vs H Q E) : r_lessened_row Z (ends Q) (L2.start nm_lessened_row vs) H := by
  obtain ⟨v, n, u, r, o, rfl, hr, ho, hl, hz, hc, k⟩ := h
  obtain ⟨p, rfl, hp⟩ := rep_row.mp hr
  obtain ⟨q, rfl, hq⟩ := rep_row.mp ho
  show r_lessened_row Z (ends Q) [some (.ref p), some (.int n), some (.ref q), none] H
  unfold r_lessened_row ends
  walk_at "rd"
  refine lcRrT (n := (r.map V.int).length) (fun R h => by walk_at "rd"; exact h) (fun i => at0 r i - n * at0 o i) (by rw [lenV]; omega) (fun _ => rfl) (fun i H1 hi s R k => ?_) ?_
  · rw [lenV] at hi
    have h1 := s _ _ hp
    have h2 := s _ _ hq
    have e1 := at0_get (r := r) (i := i) hi
    have e2 := at0_get (r := o) (i := i) (by omega)
    show (tOp _ _ _) [some (.ref p), some (.int n), some (.ref q), some (.int (i : Int))] H1 R
    walk_at "rd"
    refine w_I (hc i) ?_
    walk_at "rd"
    exact k _ (Same.refl _)
  · rw [lenV]
    exact k
def sp_scaled_row (Z : Ctx) : Sp := fun vs H Q _ => ∃ n v, ∃ r : Row, vs = [.int n, v] ∧ rep H v r ∧ r.length ≤ 1000 ∧ (∀ i, CMulG n (at0 r i)) ∧ NewR H (r.map fun x => n * x) Q
abbrev r_scaled_row (Z : Ctx) : TS := (tRet (tLc (iList Z.K (tVar 1)) (gName 2) tYes (tOp rMulI (tVar 0) (tVar 2)) [2]))
theorem ln_scaled_row : sp_scaled_row Z vs H Q E → vs.length = 2 := by rintro ⟨_, _, _, rfl, _⟩; rfl
abbrev nm_scaled_row : List Str := ["number", "row", "value"]
theorem rd_scaled_row (h : sp_scaled_row Z vs H Q E) : r_scaled_row Z (ends Q) (L2.start nm_scaled_row vs) H := by
  obtain ⟨n, v, r, rfl, hr, hz, hc, k⟩ := h
  obtain ⟨p, rfl, hp⟩ := rep_row.mp hr
  show r_scaled_row Z (ends Q) [some (.int n), some (.ref p), none] H
  unfold r_scaled_row ends
  walk_at "rd"
  refine lcLrT (xs := r.map V.int) (fun R h => by walk_at "rd"; exact h) (fun i => n * at0 r i) (SqL.of hp) (by rw [lenV]; omega) (fun _ => rfl) (fun i x H1 hi s R k => ?_) ?_
  · obtain ⟨z, hz, rfl⟩ := row_at hi
    obtain rfl := at0_some hz
    show (tOp _ _ _) [some (.int n), some (.ref p), some (.int (at0 r i))] H1 R
    walk_at "rd"
    refine w_I (hc i) ?_
    exact k _ (Same.refl _)
  · rw [map_at0 r fun x => n * x]
    exact k
def sp_unit_row (Z : Ctx) : Sp := fun vs H Q _ => ∃ n p : Nat, vs = [.int (n : Int), .int (p : Int)] ∧ n ≤ 1000 ∧ NewR H (unitR n p) Q
abbrev r_unit_row (Z : Ctx) : TS := (tRet (tLc (iRng1 (tCons (tVar 0) tNil)) (gName 2) tYes (tIf (tTest (tOp rEq (tVar 2) (tVar 1))) (tC (.int 1)) (tC (.int 0))) [2]))
theorem ln_unit_row : sp_unit_row Z vs H Q E → vs.length = 2 := by rintro ⟨_, _, rfl, _⟩; rfl
abbrev nm_unit_row : List Str := ["width", "place", "at"]
theorem rd_unit_row (h : sp_unit_row Z vs H Q E) : r_unit_row Z (ends Q) (L2.start nm_unit_row vs) H := by
  obtain ⟨n, p, rfl, hz, k⟩ := h
  show r_unit_row Z (ends Q) [some (.int n), some (.int p), none] H
  unfold r_unit_row ends
  walk_at "rd"
  refine lcRrT (n := n) (fun R h => by walk_at "rd"; exact h) (fun i => if i = p then 1 else 0) (by omega) (fun _ => rfl) (fun i H1 hi s R k => ?_) k
  show (tIf _ _ _) [some (.int n), some (.int p), some (.int (i : Int))] H1 R
  walk_at "rd"
  refine w_ite (fun h => ?_) (fun h => ?_)
  · walk_at "rd"
    have e : (if i = p then (1 : Int) else 0) = 1 := if_pos (by omega)
    have := k _ (Same.refl _)
    rw [e] at this
    exact this
  · walk_at "rd"
    have e : (if i = p then (1 : Int) else 0) = 0 := if_neg (by omega)
    have := k _ (Same.refl _)
    rw [e] at this
    exact this
def sp_zero_row (Z : Ctx) : Sp := fun vs H Q _ => ∃ n : Nat, vs = [.int (n : Int)] ∧ n ≤ 1000 ∧ NewR H (List.replicate n 0) Q
abbrev r_zero_row (Z : Ctx) : TS := (tRet (tOp rRep (tLst (tCons (tC (.int 0)) tNil)) (tVar 0)))
theorem ln_zero_row : sp_zero_row Z vs H Q E → vs.length = 1 := by rintro ⟨_, rfl, _⟩; rfl
abbrev nm_zero_row : List Str := ["width"]
theorem rd_zero_row (h : sp_zero_row Z vs H Q E) : r_zero_row Z (ends Q) (L2.start nm_zero_row vs) H := by
  obtain ⟨n, rfl, hz, k⟩ := h
  show r_zero_row Z (ends Q) [some (.int n)] H
  unfold r_zero_row ends
  walk_at "rd"
  refine ⟨by decide, fun l hl => ?_⟩
  walk_at "rd"
  refine w_rep upd_same (by omega) fun p hp => ?_
  exact k p _ ((same_new hl).trans (same_new hp)) (free_of hl hp) upd_same
/-- the place of the least number, not 0 -/
def sp_least_busy (Z : Ctx) : Sp := fun vs H Q _ => ∃ v, ∃ p w : Nat, ∃ m : Mat, vs = [v, .int (p : Int)] ∧ rep H v m ∧ Wid w m ∧ p < w ∧ m.length ≤ 1000 ∧ Q (optV (lb m p)) H
abbrev r_least_busy (Z : Ctx) : TS := (tSeq (tAsg (tC .non) (gName 2)) (tSeq (tFor (iRng1 (tCons (tCB (rLenG Z.K) (tCons (tVar 0) tNil)) tNil)) (gName 3) (tSeq (tAsg (tCB rAbsG (tCons (tOp (rIxG Z.K) (tOp (rIxG Z.K) (tVar 0) (tVar 3)) (tVar 1)) tNil)) (gName 4)) (tIfS (tAnd (tTest (tOp rNe (tVar 4) (tC (.int 0)))) (tOr (tTest (tOp rIsNo (tVar 2) (tC .non))) (tTest (tOp rLtI (tVar 4) (tCB rAbsG (tCons (tOp (rIxG Z.K) (tOp (rIxG Z.K) (tVar 0) (tVar 2)) (tVar 1)) tNil)))))) (tAsg (tVar 3) (gName 2)) tNext))) (tRet (tVar 2))))
theorem ln_least_busy : sp_least_busy Z vs H Q E → vs.length = 2 := by rintro ⟨_, _, _, _, rfl, _⟩; rfl
abbrev nm_least_busy : List Str := ["rows", "place", "best", "number", "value"]
theorem rd_least_busy (h : sp_least_busy Z vs H Q E) : r_least_busy Z (ends Q) (L2.start nm_least_busy vs) H := by
  obtain ⟨v, p, w, m, rfl, ⟨l, xs, rfl, hl, ha⟩, hw, hp, hz, k⟩ := h
  show r_least_busy Z (ends Q) [some (.ref l), some (.int p), none, none, none] H
  unfold r_least_busy ends
  have hlen := ha.len
  walk_at "rd"
  refine forR (n := xs.length) (fun i σ H' => ∃ a b, σ = [some (.ref l), some (.int p), some (optV (lbF m p i)), a, b] ∧ H' = H) ⟨_, _, rfl, rfl⟩ ?_ ?_
  · rintro i σ H' hi ⟨a, b, rfl, rfl⟩
    obtain ⟨q, hq1, hq2⟩ := mat_at ha (i := i) (by omega)
    have hq3 := at0_get (r := m.getD i []) (i := p) (by rw [hw.get (by omega)]; exact hp)
    show tSeq _ _ _ [some (.ref l), some (.int p), some (optV (lbF m p i)), some (.int (i : Int)), b] H'
    walk_at "rd"
    refine w_ite (fun h => ?_) (fun h => ?_)
    · walk_at "rd"
      cases e : lbF m p i with
      | none =>
        dsimp only [optV]
        walk_at "rd"
        have : lbF m p (i + 1) = some i := by
          rw [lbF_succ, e]
          unfold lbStep
          rw [if_pos ⟨by unfold ent; omega, fun j q => by cases q⟩]
        rw [this]
        exact ⟨_, _, rfl, rfl⟩
      | some j =>
        obtain ⟨j1, j2, j3⟩ := lbF_some e
        obtain ⟨q', hq1', hq2'⟩ := mat_at ha (i := j) (by omega)
        have hq3' := at0_get (r := m.getD j []) (i := p) (by rw [hw.get (by omega)]; exact hp)
        dsimp only [optV]
        walk_at "rd"
        refine w_ite (fun h' => ?_) (fun h' => ?_)
        · walk_at "rd"
          have : lbF m p (i + 1) = some i := by
            rw [lbF_succ, e]
            unfold lbStep
            rw [if_pos ⟨by unfold ent; omega, fun j' q => by cases q; unfold ent; omega⟩]
          rw [this]
          exact ⟨_, _, rfl, rfl⟩
        · walk_at "rd"
          have : lbF m p (i + 1) = some j := by
            rw [lbF_succ, e]
            unfold lbStep
            rw [if_neg]
            rintro ⟨_, h2⟩
            have := h2 j rfl
            unfold ent at this
            omega
          rw [this]
          exact ⟨_, _, rfl, rfl⟩
    · walk_at "rd"
      have : lbF m p (i + 1) = lbF m p i := by
        rw [lbF_succ]
        unfold lbStep
        rw [if_neg]
        rintro ⟨h1, _⟩
        unfold ent at h1
        omega
      rw [this]
      exact ⟨_, _, rfl, rfl⟩
  · rintro σ H' ⟨a, b, rfl, rfl⟩
    walk_at "rd"
    rw [hlen]
    exact k
end
end G
end
section
set_option Elab.async false
set_option linter.all false
set_option maxRecDepth 100000
namespace G
open PySem L2 PyProof.Rows
local macro_rules | `(tactic| walk_at "rd") => `(tactic| repeat (first
  | (with_reducible refine v_seq ?_)
  | (with_reducible refine v_asg ?_)
  | (with_reducible refine w_cons ?_)
  | (with_reducible refine w_nil ?_)
  | (with_reducible refine w_op ?_)
  | (with_reducible refine w_c ?_)
  | (with_reducible refine w_I0 ?_)
  | (with_reducible refine w_cb ?_)
  | (with_reducible refine w_call ?_)
  | (with_reducible refine v_ret ?_)
  | (with_reducible refine v_next ?_)
  | (with_reducible refine w_ixR (by assumption) (by assumption) ?_)
  | (with_reducible refine w_ix (by assumption) (by assumption) ?_)
  | (with_reducible refine w_test ?_)
  | (with_reducible refine w_tB ?_)
  | (with_reducible refine w_and ?_)
  | (with_reducible refine w_or ?_)
  | (with_reducible refine w_not ?_)
  | (with_reducible refine w_ifE ?_)
  | (with_reducible refine v_ifS ?_)
  | (with_reducible refine w_tt ?_)
  | (with_reducible refine w_ff ?_)
  | (with_reducible refine w_eqI ?_)
  | (with_reducible refine w_neI ?_)
  | (with_reducible refine w_U ?_)
  | (with_reducible refine w_un ?_)
  | (with_reducible refine w_len (by assumption) ?_)
  | (with_reducible refine w_abs ?_)
  | (with_reducible refine w_int ?_)
  | (with_reducible refine w_isN0 ?_)
  | (with_reducible refine w_isN1 (by assumption) ?_)
  | (with_reducible refine w_isN1 ne_in ?_)
  | (with_reducible refine w_isN1 ne_rn ?_)
  | (with_reducible refine w_notN0 ?_)
  | (with_reducible refine w_notN1 ne_in ?_)
  | (with_reducible refine w_notN1 ne_rn ?_)
  | (with_reducible refine v_lst ?_)
  | (with_reducible refine v_tup ?_)
  | (with_reducible refine w_notN1 (by assumption) ?_)
  | (with_reducible refine v_drop ?_)
  | (with_reducible refine w_bm ?_)
  | (with_reducible refine v_for ?_)
  | (with_reducible refine v_rng1 ?_)
  | (with_reducible refine v_rng2 ?_)
  | (with_reducible refine v_list ?_)
  | (with_reducible refine w_sub ?_)
  | (with_reducible refine v_ip ?_)
  | (with_reducible refine v_augS ?_)
  | (with_reducible refine v_retN ?_)
  | (with_reducible refine w_yes ?_)
  | (with_reducible refine tv_0 ?_)
  | (with_reducible refine nv_0 ?_)
  | (with_reducible refine av_0 ?_)
  | (with_reducible refine tv_1 ?_)
  | (with_reducible refine nv_1 ?_)
  | (with_reducible refine av_1 ?_)
  | (with_reducible refine tv_2 ?_)
  | (with_reducible refine nv_2 ?_)
  | (with_reducible refine av_2 ?_)
  | (with_reducible refine tv_3 ?_)
  | (with_reducible refine nv_3 ?_)
  | (with_reducible refine av_3 ?_)
  | (with_reducible refine tv_4 ?_)
  | (with_reducible refine nv_4 ?_)
  | (with_reducible refine av_4 ?_)
  | (with_reducible refine tv_5 ?_)
  | (with_reducible refine nv_5 ?_)
  | (with_reducible refine av_5 ?_)
  | (with_reducible refine tv_6 ?_)
  | (with_reducible refine nv_6 ?_)
  | (with_reducible refine av_6 ?_)
  | (with_reducible refine tv_7 ?_)
  | (with_reducible refine nv_7 ?_)
  | (with_reducible refine av_7 ?_)
  | (with_reducible refine tv_8 ?_)
  | (with_reducible refine nv_8 ?_)
  | (with_reducible refine av_8 ?_)
  | (with_reducible refine tv_9 ?_)
  | (with_reducible refine nv_9 ?_)
  | (with_reducible refine av_9 ?_)
  | (with_reducible refine tv_10 ?_)
  | (with_reducible refine nv_10 ?_)
  | (with_reducible refine av_10 ?_)
  | (with_reducible refine tv_11 ?_)
  | (with_reducible refine nv_11 ?_)
  | (with_reducible refine av_11 ?_)
  | (with_reducible refine tv_12 ?_)
  | (with_reducible refine nv_12 ?_)
  | (with_reducible refine av_12 ?_)
  | (with_reducible refine tv_13 ?_)
  | (with_reducible refine nv_13 ?_)
  | (with_reducible refine av_13 ?_)
  | (with_reducible refine tv_14 ?_)
  | (with_reducible refine nv_14 ?_)
  | (with_reducible refine av_14 ?_)
  | (with_reducible refine tv_15 ?_)
  | (with_reducible refine nv_15 ?_)
  | (with_reducible refine av_15 ?_)
  | (with_reducible refine ⟨_, rfl, ⟨_, SqL.of (by assumption)⟩, ?_⟩)
  | (with_reducible refine ⟨_, rfl, (by omega), (by omega), ?_⟩)
  | (with_reducible refine ⟨w_tyL (by assumption), ?_⟩)
  | (with_reducible refine w_isiII ?_)
  | (with_reducible refine w_isiIB ?_)
  | (with_reducible refine w_isiBB ?_)
  | (with_reducible refine w_isiBI ?_)
  | (with_reducible refine w_isiNL ?_)
  | (with_reducible refine w_isiLL (by assumption) ?_)
  | (with_reducible refine v_sl ?_)
  | (with_reducible refine w_nff ?_)
  | (with_reducible refine w_ntt ?_)
  | (with_reducible refine v_chain ?_)
  | (with_reducible refine v_andV ?_)
  | (with_reducible refine v_orV ?_)
  | (with_reducible refine v_notV ?_)
  | (with_reducible refine v_noP ?_)
  | (with_reducible refine v_part ?_)
  | (with_reducible refine v_fld ?_)
  | (with_reducible refine v_sfld ?_)
  | (with_reducible refine ⟨_, (rfl : V.bl _ = V.bl _), ?_⟩)
  | (with_reducible refine ⟨_, (rfl : V.ref _ = V.ref _), ?_⟩)
  | (with_reducible refine ⟨_, (rfl : [V.int _] = [V.int _]), ?_⟩)
  | (with_reducible refine ⟨_, (rfl : V.int _ = V.int _), ?_⟩)
  | (with_reducible refine ⟨⟨_, SqL.of (by assumption)⟩, ?_⟩)
  | (with_reducible refine ⟨(by (first | omega | (rw [lenV]; omega)) : -(2 ^ 62) ≤ _), (by first | omega | (rw [lenV]; omega)), ?_⟩)
  ))
section
variable {Z : Ctx} {vs : List V} {H : Hp} {Q : VK} {E : XK}
theorem bd_of {n : Nat} {i : Int} (h : i.natAbs ≤ 2 ^ n) : Bd (n + 1) i := Nat.lt_of_le_of_lt h (Nat.pow_lt_pow_right (by decide) (Nat.lt_succ_self n))
/-- sizes of one step of a round -/
theorem lsd_ok {b : Nat} {x y z : Int} (h1 : x.natAbs ≤ 2 ^ b) (h2 : z.natAbs ≤ 2 ^ b) (hb : b ≤ 60000000) : CMulG (x.fdiv y) z :=
  CMulG.of (bd_of (Nat.le_trans (fdiv_abs x y) h1)) (bd_of h2) (by omega)
/-- a row pulled out of a list: the list is changed, the row handed back -/
def spPull : Sp := fun vs H Q _ => ∃ (l : Addr) (p w b : Nat) (M : Addr → Prop) (m : Mat) (xs : List V), vs = [.ref l, .int (p : Int)] ∧ H l = some (.lst xs) ∧ M l ∧ (∀ a, M a → dom H a) ∧ All2 (rep (off H M)) xs m ∧ Wid w m ∧ p < w ∧ w ≤ 1000 ∧ m.length ≤ 1000 ∧ Ok1 b m p ∧ 4 * b + 2 ≤ 60000000 ∧
  ∀ v xs' H', Chg l H H' → H' l = some (.lst xs') → All2 (rep (off H' M)) xs' (pull m p).2 → rep (off H' M) v (pull m p).1 → Q v H'
def sp_pulled_row (Z : Ctx) : Sp := spPull
abbrev r_pulled_row (Z : Ctx) : TS := (tWhile (tB (tC (.bl true))) (tSeq (tAsg (tCall (sp_least_busy Z) [] E0 (tCons (tVar 0) (tCons (tVar 1) tNil))) (gName 2)) (tSeq (tIfS (tTest (tOp rIsNo (tVar 2) (tC .non))) (tRet (tC .non)) tNext) (tSeq (tAsg (tOp (rIxG Z.K) (tVar 0) (tVar 2)) (gName 3)) (tSeq (tAsg (tC (.int 0)) (gName 4)) (tSeq (tFor (iRng1 (tCons (tCB (rLenG Z.K) (tCons (tVar 0) tNil)) tNil)) (gName 5) (tIfS (tAnd (tTest (tOp rNe (tVar 5) (tVar 2))) (tTest (tOp rNe (tOp (rIxG Z.K) (tOp (rIxG Z.K) (tVar 0) (tVar 5)) (tVar 1)) (tC (.int 0))))) (tSeq (tAsg (tCall (sp_lessened_row Z) [] E0 (tCons (tOp (rIxG Z.K) (tVar 0) (tVar 5)) (tCons (tOp rDivI (tOp (rIxG Z.K) (tOp (rIxG Z.K) (tVar 0) (tVar 5)) (tVar 1)) (tOp (rIxG Z.K) (tVar 3) (tVar 1))) (tCons (tVar 3) tNil)))) (gSub (tVar 0) (tVar 5) rSetG)) (tIfS (tTest (tOp rNe (tOp (rIxG Z.K) (tOp (rIxG Z.K) (tVar 0) (tVar 5)) (tVar 1)) (tC (.int 0)))) (tAug 4 (tC (.int 1)) (ipI fun i j => i + j)) tNext)) tNext)) (tIfS (tTest (tOp rEq (tVar 4) (tC (.int 0)))) (tSeq (tDrop (tBM Z.K "list" rPopAt (tVar 0) (tCons (tVar 2) tNil))) (tRet (tIf (tTest (tOp rGtI (tOp (rIxG Z.K) (tVar 3) (tVar 1)) (tC (.int 0)))) (tVar 3) (tCall (sp_scaled_row Z) [] E0 (tCons (tUn uNegI (tC (.int 1))) (tCons (tVar 3) tNil)))))) tNext)))))))
theorem ln_pulled_row : sp_pulled_row Z vs H Q E → vs.length = 2 := by rintro ⟨_, _, _, _, _, _, _, rfl, _⟩; rfl
abbrev nm_pulled_row : List Str := ["rows", "place", "best", "lead", "busy", "number"]
theorem rd_pulled_row (h : sp_pulled_row Z vs H Q E) : r_pulled_row Z (ends Q) (L2.start nm_pulled_row vs) H := by
  obtain ⟨l, p, w, b, M, m, xs, rfl, hl, hM, hD, ha, hw, hp, hw1, hz, hb, hs, k⟩ := h
  show r_pulled_row Z (ends Q) [some (.ref l), some (.int p), none, none, none, none] H
  unfold r_pulled_row ends
  refine v_while (fun n σ H' => ∃ m1 xs1 a b1 c d, n = meas m1 p ∧ σ = [some (.ref l), some (.int p), a, b1, c, d] ∧ Chg l H H' ∧ H' l = some (.lst xs1) ∧ All2 (rep (off H' M)) xs1 m1 ∧ Wid w m1 ∧ m1.length = m.length ∧ Ok1 b m1 p ∧ pull m1 p = pull m p) (meas m p)
    ⟨m, xs, _, _, _, _, rfl, rfl, .refl _, hl, ha, hw, rfl, hb, rfl⟩ ?_
  rintro n σ H1 ⟨m1, xs1, a, b1, c, d, rfl, rfl, ch, hl1, ha1, hw2, hlen, hpb, hpull⟩
  walk_at "rd"
  refine ⟨_, fun σ' H' h => h, ?_⟩
  walk_at "rd"
  have hx1 := ha1.len
  refine ⟨.ref l, p, w, m1, rfl, ⟨l, xs1, rfl, hl1, all2_mono off_same ha1⟩, hw2, hp, by omega, ?_⟩
  walk_at "rd"
  cases e : lb m1 p with
  | none =>
    dsimp only [optV]
    walk_at "rd"
    have e2 := pull_none e
    rw [hpull] at e2
    refine k .non xs1 H1 ch hl1 ?_ ?_
    · rw [e2]; exact ha1
    · rw [e2]; exact (rfl : V.non = V.non)
  | some b2 =>
    dsimp only [optV]
    obtain ⟨hb2, hbz, hbm⟩ := lb_some e
    obtain ⟨z1, z3⟩ := hpb.step hw2 e
    obtain ⟨q, hq1, hq2⟩ := mat_at ha1 (i := b2) hb2
    have hbl := hw2.get hb2
    walk_at "rd"
    refine forR (n := xs1.length) (fun i σ H2 => ∃ xs2 cnt c, σ = [some (.ref l), some (.int p), some (.int (b2 : Int)), some (.ref q), some (.int cnt), c] ∧ Chg l H1 H2 ∧ H2 l = some (.lst xs2) ∧ All2 (rep (off H2 M)) xs2 (rndF m1 p b2 i) ∧ 0 ≤ cnt ∧
      (cnt = 0 ↔ ∀ j, j < i → j ≠ b2 → ent (rnd m1 p b2) j p = 0)) ⟨xs1, 0, _, rfl, .refl _, hl1, by rw [rndF_zero]; exact ha1, by omega, fun _ j hj => by omega, fun _ => rfl⟩ ?_ ?_
    · rintro i σ H2 hi ⟨xs2, cnt, c1, rfl, ch2, hl2, ha2, hc0, hc1⟩
      have hi' : i < m1.length := by omega
      have hl3 := ha2.len
      rw [rndF_length] at hl3
      have eR : (rndF m1 p b2 i).getD i [] = m1.getD i [] := by
        rw [List.getD_eq_getElem?_getD, rndF_get hi', if_neg (by omega)]
        rfl
      obtain ⟨q3, hq3, hq4⟩ := mat_at ha2 (i := i) (by rw [rndF_length]; exact hi')
      rw [eR] at hq4
      have hq5 : H2 q = some (.lst ((m1.getD b2 []).map V.int)) := off_same _ _ (ch2.off hM _ _ hq2)
      have hq6 : H2 q3 = some (.lst ((m1.getD i []).map V.int)) := off_same _ _ hq4
      have hil := hw2.get hi'
      have g1 := at0_get (r := m1.getD i []) (i := p) (by omega)
      have g2 := at0_get (r := m1.getD b2 []) (i := p) (by omega)
      have succ : ∀ P : Nat → Prop, (∀ j, j < i + 1 → j ≠ b2 → P j) ↔ (∀ j, j < i → j ≠ b2 → P j) ∧ (i ≠ b2 → P i) := fun P => ⟨fun h => ⟨fun j h1 => h j (by omega), h i (by omega)⟩, fun ⟨h1, h2⟩ j hj hn => by
        by_cases ej : j = i
        · subst ej; exact h2 hn
        · exact h1 j (by omega) hn⟩
      show tIfS _ _ _ _ [some (.ref l), some (.int p), some (.int (b2 : Int)), some (.ref q), some (.int cnt), some (.int (i : Int))] H2
      have entq : ∀ j, ent m1 i j = at0 (m1.getD i []) j := fun j => rfl
      walk_at "rd"
      refine w_ite (fun h => ?_) (fun h => ?_)
      · walk_at "rd"
        refine w_ite (fun h' => ?_) (fun h' => ?_)
        · walk_at "rd"
          refine w_I (by have := entq p; unfold ent at hbz; exact hbz) ?_
          walk_at "rd"
          refine ⟨.ref q3, _, .ref q, m1.getD i [], m1.getD b2 [], rfl, rep_row_of hq6, rep_row_of hq5, by omega, by omega, fun j => lsd_ok (b := 4 * b + 2) ?_ ?_ hs, ?_⟩
          · exact Nat.le_trans (z1 i (by omega) (by rw [entq]; exact h') i p) bits3
          · exact Nat.le_trans (z1 i (by omega) (by rw [entq]; exact h') b2 j) bits3
          intro p3 H3 s3 n3 e3
          walk_at "rd"
          have hl4 := s3 _ _ hl2
          refine w_set hl4 (by omega) ?_
          have nM : ¬ M p3 := fun z => ch2.dom (dom_of hl2) (ch.dom (dom_of hl1) (hD _ z)) n3
          have np : p3 ≠ l := fun z => nM (z ▸ hM)
          have eRnd : rndR m1 p b2 i = less (m1.getD i []) ((at0 (m1.getD i []) p).fdiv (at0 (m1.getD b2 []) p)) (m1.getD b2 []) := by
            unfold rndR lsd
            rw [if_pos ⟨by omega, by rw [entq]; exact h'⟩]
          have ha4 : All2 (rep (off (upd H3 l (.lst (xs2.set i (.ref p3)))) M)) (xs2.set i (.ref p3)) (rndF m1 p b2 (i + 1)) := by
            rw [rndF_succ hi', off_upd hM]
            refine (all2_mono (off_mono s3) ha2).set i ?_
            rw [eRnd]
            exact rep_row_of (off_in nM e3)
          have ch4 : Chg l H1 (upd H3 l (.lst (xs2.set i (.ref p3)))) := ch2.trans ((Chg.of s3).trans chg_upd)
          have hl5 : (upd H3 l (.lst (xs2.set i (.ref p3)))) l = some (.lst (xs2.set i (.ref p3))) := upd_same
          have hx5 : (xs2.set i (.ref p3))[i]? = some (.ref p3) := List.getElem?_set_self (by omega)
          have e5 : (upd H3 l (.lst (xs2.set i (.ref p3)))) p3 = some (.lst ((less (m1.getD i []) ((at0 (m1.getD i []) p).fdiv (at0 (m1.getD b2 []) p)) (m1.getD b2 [])).map V.int)) := by
            rw [upd_ne np]; exact e3
          have g5 := at0_get (r := less (m1.getD i []) ((at0 (m1.getD i []) p).fdiv (at0 (m1.getD b2 []) p)) (m1.getD b2 [])) (i := p) (by rw [less_length]; omega)
          have g6 : at0 (less (m1.getD i []) ((at0 (m1.getD i []) p).fdiv (at0 (m1.getD b2 []) p)) (m1.getD b2 [])) p = ent (rnd m1 p b2) i p := by
            unfold ent rnd
            rw [getD_map_range, if_pos hi', eRnd]
          rw [g6] at g5
          walk_at "rd"
          refine w_ite (fun h6 => ?_) (fun h6 => ?_)
          · walk_at "rd"
            refine ⟨_, _, _, rfl, ch4, hl5, ha4, by omega, fun z => by omega, fun z => absurd (((succ _).mp z).2 (by omega)) h6⟩
          · walk_at "rd"
            refine ⟨_, _, _, rfl, ch4, hl5, ha4, hc0, fun z => (succ _).mpr ⟨hc1.mp z, fun _ => by omega⟩, fun z => hc1.mpr ((succ _).mp z).1⟩
        · walk_at "rd"
          have eS : rndR m1 p b2 i = m1.getD i [] := by
            unfold rndR
            rw [if_neg]
            rintro ⟨_, z⟩
            rw [entq] at z
            exact h' z
          have e0 : ent (rnd m1 p b2) i p = 0 := by
            unfold ent rnd
            rw [getD_map_range, if_pos hi', eS]
            omega
          refine ⟨xs2, cnt, _, rfl, ch2, hl2, by rw [rndF_same hi' eS]; exact ha2, hc0, fun z => (succ _).mpr ⟨hc1.mp z, fun _ => e0⟩, fun z => hc1.mpr ((succ _).mp z).1⟩
      · walk_at "rd"
        have eS : rndR m1 p b2 i = m1.getD i [] := by
          unfold rndR
          rw [if_neg]
          rintro ⟨z, _⟩
          omega
        refine ⟨xs2, cnt, _, rfl, ch2, hl2, by rw [rndF_same hi' eS]; exact ha2, hc0, fun z => (succ _).mpr ⟨hc1.mp z, fun z => by omega⟩, fun z => hc1.mpr ((succ _).mp z).1⟩
    · rintro σ H2 ⟨xs2, cnt, c1, rfl, ch2, hl2, ha2, hc0, hc1⟩
      rw [hx1, rndF_all] at ha2
      rw [hx1] at hc1
      have hl3 := ha2.len
      rw [rnd_length] at hl3
      have hq5 : H2 q = some (.lst ((m1.getD b2 []).map V.int)) := off_same _ _ (ch2.off hM _ _ hq2)
      have g2 := at0_get (r := m1.getD b2 []) (i := p) (by omega)
      walk_at "rd"
      refine w_ite (fun h => ?_) (fun h => ?_)
      · have hcl : Clean (rnd m1 p b2) p b2 := fun i hi hn => by
          rw [rnd_length] at hi
          exact hc1.mp h i hi hn
        have e2 := pull_clean e hcl
        rw [hpull] at e2
        walk_at "rd"
        obtain ⟨xb, hxb⟩ : ∃ x, xs2[b2]? = some x := ⟨_, List.getElem?_eq_getElem (by omega)⟩
        refine w_popAt hl2 (by omega) hxb ?_
        have ch3 : Chg l H (upd H2 l (.lst (xs2.eraseIdx b2))) := ch.trans (ch2.trans chg_upd)
        have ha3 : All2 (rep (off (upd H2 l (.lst (xs2.eraseIdx b2))) M)) (xs2.eraseIdx b2) (pull m p).2 := by
          rw [e2, off_upd hM]
          exact ha2.erase b2
        have nql : q ≠ l := fun z => (off_some.mp hq2).1 (z ▸ hM)
        have hq6 : (upd H2 l (.lst (xs2.eraseIdx b2))) q = some (.lst ((m1.getD b2 []).map V.int)) := by rw [upd_ne nql]; exact hq5
        have nq : ¬ M q := (off_some.mp hq2).1
        walk_at "rd"
        refine w_ite (fun h7 => ?_) (fun h7 => ?_)
        · walk_at "rd"
          refine k _ _ _ ch3 upd_same ha3 ?_
          rw [e2]
          refine ⟨ne_rn, ?_⟩
          unfold norm
          rw [if_pos h7]
          exact rep_row_of (off_in nq hq6)
        · walk_at "rd"
          refine ⟨-1, .ref q, m1.getD b2 [], rfl, rep_row_of hq6, by omega, fun j => .l (by unfold Bd; decide), ?_⟩
          intro p8 H8 s8 n8 e8
          have nM : ¬ M p8 := fun z => (Chg.dom (ch2.trans chg_upd) (dom_of upd_same) (ch.dom (dom_of hl1) (hD _ z))) n8
          refine k _ (xs2.eraseIdx b2) H8 (ch3.trans (.of s8)) (s8 _ _ upd_same) (all2_mono (off_mono s8) ha3) ?_
          rw [e2]
          refine ⟨ne_rn, ?_⟩
          unfold norm
          rw [if_neg h7]
          have e9 : (m1.getD b2 []).map (fun x => -1 * x) = (m1.getD b2 []).map fun x => -x := List.map_congr_left fun x _ => by omega
          rw [e9] at e8
          exact rep_row_of (off_in nM e8)
      · walk_at "rd"
        have hcl : ¬ Clean (rnd m1 p b2) p b2 := fun z => h (hc1.mpr fun j hj hn => z j (by rw [rnd_length]; exact hj) hn)
        refine ⟨meas (rnd m1 p b2) p, meas_rnd hw2 e hcl, rnd m1 p b2, xs2, _, _, _, _, rfl, rfl, ch.trans ch2, hl2, ha2, rnd_wid hw2, by rw [rnd_length, hlen], z3 hcl, ?_⟩
        rw [← pull_step hw2 e hcl, hpull]
end
end G
end
section
set_option Elab.async false
set_option linter.all false
set_option maxRecDepth 100000
namespace G
open PySem L2 PyProof.Rows
local macro_rules | `(tactic| walk_at "rd") => `(tactic| repeat (first
  | (with_reducible refine v_seq ?_)
  | (with_reducible refine v_asg ?_)
  | (with_reducible refine w_cons ?_)
  | (with_reducible refine w_nil ?_)
  | (with_reducible refine w_op ?_)
  | (with_reducible refine w_c ?_)
  | (with_reducible refine w_I0 ?_)
  | (with_reducible refine w_cb ?_)
  | (with_reducible refine w_call ?_)
  | (with_reducible refine v_ret ?_)
  | (with_reducible refine v_next ?_)
  | (with_reducible refine w_ixR (by assumption) (by assumption) ?_)
  | (with_reducible refine w_ix (by assumption) (by assumption) ?_)
  | (with_reducible refine w_test ?_)
  | (with_reducible refine w_tB ?_)
  | (with_reducible refine w_and ?_)
  | (with_reducible refine w_or ?_)
  | (with_reducible refine w_not ?_)
  | (with_reducible refine w_ifE ?_)
  | (with_reducible refine v_ifS ?_)
  | (with_reducible refine w_tt ?_)
  | (with_reducible refine w_ff ?_)
  | (with_reducible refine w_eqI ?_)
  | (with_reducible refine w_neI ?_)
  | (with_reducible refine w_U ?_)
  | (with_reducible refine w_un ?_)
  | (with_reducible refine w_len (by assumption) ?_)
  | (with_reducible refine w_abs ?_)
  | (with_reducible refine w_int ?_)
  | (with_reducible refine w_isN0 ?_)
  | (with_reducible refine w_isN1 (by assumption) ?_)
  | (with_reducible refine w_isN1 ne_in ?_)
  | (with_reducible refine w_isN1 ne_rn ?_)
  | (with_reducible refine w_notN0 ?_)
  | (with_reducible refine w_notN1 ne_in ?_)
  | (with_reducible refine w_notN1 ne_rn ?_)
  | (with_reducible refine v_lst ?_)
  | (with_reducible refine v_tup ?_)
  | (with_reducible refine w_notN1 (by assumption) ?_)
  | (with_reducible refine v_drop ?_)
  | (with_reducible refine w_bm ?_)
  | (with_reducible refine v_for ?_)
  | (with_reducible refine v_rng1 ?_)
  | (with_reducible refine v_rng2 ?_)
  | (with_reducible refine v_list ?_)
  | (with_reducible refine w_sub ?_)
  | (with_reducible refine v_ip ?_)
  | (with_reducible refine v_augS ?_)
  | (with_reducible refine v_retN ?_)
  | (with_reducible refine w_yes ?_)
  | (with_reducible refine tv_0 ?_)
  | (with_reducible refine nv_0 ?_)
  | (with_reducible refine av_0 ?_)
  | (with_reducible refine tv_1 ?_)
  | (with_reducible refine nv_1 ?_)
  | (with_reducible refine av_1 ?_)
  | (with_reducible refine tv_2 ?_)
  | (with_reducible refine nv_2 ?_)
  | (with_reducible refine av_2 ?_)
  | (with_reducible refine tv_3 ?_)
  | (with_reducible refine nv_3 ?_)
  | (with_reducible refine av_3 ?_)
  | (with_reducible refine tv_4 ?_)
  | (with_reducible refine nv_4 ?_)
  | (with_reducible refine av_4 ?_)
  | (with_reducible refine tv_5 ?_)
  | (with_reducible refine nv_5 ?_)
  | (with_reducible refine av_5 ?_)
  | (with_reducible refine tv_6 ?_)
  | (with_reducible refine nv_6 ?_)
  | (with_reducible refine av_6 ?_)
  | (with_reducible refine tv_7 ?_)
  | (with_reducible refine nv_7 ?_)
  | (with_reducible refine av_7 ?_)
  | (with_reducible refine tv_8 ?_)
  | (with_reducible refine nv_8 ?_)
  | (with_reducible refine av_8 ?_)
  | (with_reducible refine tv_9 ?_)
  | (with_reducible refine nv_9 ?_)
  | (with_reducible refine av_9 ?_)
  | (with_reducible refine tv_10 ?_)
  | (with_reducible refine nv_10 ?_)
  | (with_reducible refine av_10 ?_)
  | (with_reducible refine tv_11 ?_)
  | (with_reducible refine nv_11 ?_)
  | (with_reducible refine av_11 ?_)
  | (with_reducible refine tv_12 ?_)
  | (with_reducible refine nv_12 ?_)
  | (with_reducible refine av_12 ?_)
  | (with_reducible refine tv_13 ?_)
  | (with_reducible refine nv_13 ?_)
  | (with_reducible refine av_13 ?_)
  | (with_reducible refine tv_14 ?_)
  | (with_reducible refine nv_14 ?_)
  | (with_reducible refine av_14 ?_)
  | (with_reducible refine tv_15 ?_)
  | (with_reducible refine nv_15 ?_)
  | (with_reducible refine av_15 ?_)
  | (with_reducible refine ⟨_, rfl, ⟨_, SqL.of (by assumption)⟩, ?_⟩)
  | (with_reducible refine ⟨_, rfl, (by omega), (by omega), ?_⟩)
  | (with_reducible refine ⟨w_tyL (by assumption), ?_⟩)
  | (with_reducible refine w_isiII ?_)
  | (with_reducible refine w_isiIB ?_)
  | (with_reducible refine w_isiBB ?_)
  | (with_reducible refine w_isiBI ?_)
  | (with_reducible refine w_isiNL ?_)
  | (with_reducible refine w_isiLL (by assumption) ?_)
  | (with_reducible refine v_sl ?_)
  | (with_reducible refine w_nff ?_)
  | (with_reducible refine w_ntt ?_)
  | (with_reducible refine v_chain ?_)
  | (with_reducible refine v_andV ?_)
  | (with_reducible refine v_orV ?_)
  | (with_reducible refine v_notV ?_)
  | (with_reducible refine v_noP ?_)
  | (with_reducible refine v_part ?_)
  | (with_reducible refine v_fld ?_)
  | (with_reducible refine v_sfld ?_)
  | (with_reducible refine ⟨_, (rfl : V.bl _ = V.bl _), ?_⟩)
  | (with_reducible refine ⟨_, (rfl : V.ref _ = V.ref _), ?_⟩)
  | (with_reducible refine ⟨_, (rfl : [V.int _] = [V.int _]), ?_⟩)
  | (with_reducible refine ⟨_, (rfl : V.int _ = V.int _), ?_⟩)
  | (with_reducible refine ⟨⟨_, SqL.of (by assumption)⟩, ?_⟩)
  | (with_reducible refine ⟨(by (first | omega | (rw [lenV]; omega)) : -(2 ^ 62) ≤ _), (by first | omega | (rw [lenV]; omega)), ?_⟩)
  ))
section
variable {Z : Ctx} {vs : List V} {H : Hp} {Q : VK} {E : XK}
theorem lb20 {b w : Nat} (hb : b ≤ 20) (hw : w ≤ 9) : ∀ n, n < w → lbit b n ≤ 14000000 := fun n hn => by
  have L9 := lbit_le b n
  have P9 : (b + 1) * 4 ^ n ≤ 21 * 4 ^ 8 := Nat.mul_le_mul (by omega) (Nat.pow_le_pow_right (by decide) (by omega))
  have e : 21 * 4 ^ 8 = 1376256 := by decide
  omega
theorem some_le (m : Mat) : ∃ b, Le (2 ^ b) m := by
  have row : ∀ r : Row, ∃ X, ∀ j, (at0 r j).natAbs ≤ X := fun r => by
    induction r with
    | nil => exact ⟨0, fun j => by rw [at0_out (by simp)]; exact Nat.le_refl _⟩
    | cons x r ih =>
      obtain ⟨X, h⟩ := ih
      refine ⟨x.natAbs + X, fun j => ?_⟩
      cases j with
      | zero => exact Nat.le_add_right _ _
      | succ j => exact Nat.le_trans (h j) (Nat.le_add_left _ _)
  have all : ∃ X, ∀ r ∈ m, ∀ j, (at0 r j).natAbs ≤ X := by
    induction m with
    | nil => exact ⟨0, fun r hr => absurd hr (by simp)⟩
    | cons x m ih =>
      obtain ⟨X, h⟩ := ih
      obtain ⟨Y, g⟩ := row x
      refine ⟨X + Y, fun r hr j => ?_⟩
      rcases List.mem_cons.mp hr with e | e
      · rw [e]; exact Nat.le_trans (g j) (Nat.le_add_left _ _)
      · exact Nat.le_trans (h r e j) (Nat.le_add_right _ _)
  obtain ⟨X, h⟩ := all
  exact ⟨X, le_iff.mpr fun r hr j => Nat.le_trans (h r hr j) (Nat.le_of_lt Nat.lt_two_pow_self)⟩
/-- the sizes are small, or the rows are normal already -/
def StSz (w w' b : Nat) (m : Mat) : Prop := (Le (2 ^ b) m ∧ ∀ n, n < w → lbit b n ≤ 14000000) ∨ ∃ L, Hs w' m L
theorem StSz.step {w w' b : Nat} {m : Mat} (h : StSz w w' b m) (hw : Wid w' m) (n : Nat) (hn : n < w) : (∃ b', Ok1 b' (stF m n).2 n ∧ 4 * b' + 2 ≤ 60000000) ∧
    ∀ r, (pull (stF m n).2 n).1 = some r → ∀ i, i < (stF m n).1.length → ∀ j, CMulG ((ent (stF m n).1 i n).fdiv (at0 r n)) (at0 r j) := by
  rcases h with ⟨hb, hl⟩ | ⟨L, h⟩
  · obtain ⟨v1, v2, v3, v4, _⟩ := stF_inv hw hb n
    have B9 := hl n hn
    have S9 := sbit_le b n
    refine ⟨⟨lbit b n, .inl (.inl v4), by omega⟩, fun r hr i _ j => ?_⟩
    have rs := (pull_size (p := n) v2 v4).1 r hr
    exact CMulG.of (bd_of (Nat.le_trans (fdiv_abs _ _) (v3 i n))) (bd_of (rs j)) (by omega)
  · obtain ⟨k, h1, h2, h3⟩ := stF_hs h n
    obtain ⟨so, h4⟩ := pull_hs h h3
    rw [h2]
    refine ⟨⟨0, .inr so, by decide⟩, fun r hr i hi j => ?_⟩
    rcases h4 with ⟨a1, a2, a3⟩ | ⟨a1, a2⟩
    · dsimp only at hr hi ⊢
      rw [a3] at hr
      cases hr
      have hik : i < k := by rw [List.length_take] at hi; omega
      have := h.red i k n hik a1
      have ei : ent (m.take k) i n = ent m i n := by
        unfold ent
        rw [List.getD_eq_getElem?_getD, List.getElem?_take, if_pos hik, List.getD_eq_getElem?_getD]
      rw [ei]
      have e0 : (ent m i n).fdiv (at0 (m.getD k []) n) = 0 := Int.fdiv_eq_zero_of_lt this.1 this.2
      rw [e0]
      exact .l (by unfold Bd; decide)
    · dsimp only at hr
      rw [a2] at hr
      cases hr
/-- what is asked of rows whose stairs are taken -/
def StPre (w w' b : Nat) (m : Mat) : Prop := Wid w' m ∧ w ≤ w' ∧ w ≤ 9 ∧ w' ≤ 1000 ∧ m.length ≤ 900 ∧ StSz w w' b m
def spRest (f : List V → HO) : Sp := fun vs H Q _ => ∃ v, ∃ w w' b : Nat, ∃ m : Mat, vs = [v, .int (w : Int)] ∧ rep H v m ∧ StPre w w' b m ∧
  ∀ p s l xs ys H', Same H H' → H p = none → H s = none → H l = none → s ≠ l → H' p = some (f [.ref s, .ref l]) → H' s = some (.lst xs) → H' l = some (.lst ys) → All2 (rep (off H' (wth (wth (dom H) l) s))) xs (stF m w).1 →
    All2 (rep (off H' (wth (wth (dom H) l) s))) ys (stF m w).2 → Q (.ref p) H'
def spStairs : Sp := fun vs H Q _ => ∃ v, ∃ w w' b : Nat, ∃ m : Mat, vs = [v, .int (w : Int)] ∧ rep H v m ∧ StPre w w' b m ∧ NewL (dom H) H (stairs m w) Q
def sp_stairs_and_rest (Z : Ctx) : Sp := spRest (fun xs => .tup xs)
abbrev r_stairs_and_rest (Z : Ctx) : TS := (tSeq (tAsg (tLc (iList Z.K (tVar 0)) (gName 3) tYes (tCB (rLstG Z.K) (tCons (tVar 3) tNil)) [3]) (gName 2)) (tSeq (tAsg (tLst tNil) (gName 4)) (tSeq (tFor (iRng1 (tCons (tVar 1) tNil)) (gName 5) (tSeq (tAsg (tCall (sp_pulled_row Z) [] E0 (tCons (tVar 2) (tCons (tVar 5) tNil))) (gName 6)) (tIfS (tTest (tOp rNotNo (tVar 6) (tC .non))) (tSeq (tAsg (tLc (iList Z.K (tVar 4)) (gName 3) tYes (tCall (sp_lessened_row Z) [] E0 (tCons (tVar 3) (tCons (tOp rDivI (tOp (rIxG Z.K) (tVar 3) (tVar 5)) (tOp (rIxG Z.K) (tVar 6) (tVar 5))) (tCons (tVar 6) tNil)))) [3]) (gName 4)) (tDrop (tBM Z.K "list" rAppend (tVar 4) (tCons (tVar 6) tNil)))) tNext))) (tRet (tTup (tCons (tVar 4) (tCons (tVar 2) tNil)))))))
theorem ln_stairs_and_rest : sp_stairs_and_rest Z vs H Q E → vs.length = 2 := by rintro ⟨_, _, _, _, _, rfl, _⟩; rfl
abbrev nm_stairs_and_rest : List Str := ["rows", "width", "left", "row", "stairs", "place", "lead"]
theorem rd_stairs_and_rest (h : sp_stairs_and_rest Z vs H Q E) : r_stairs_and_rest Z (ends Q) (L2.start nm_stairs_and_rest vs) H := by
  obtain ⟨v, w, w', b, m, rfl, ⟨l0, xs0, rfl, h0, ha0⟩, ⟨hw, hww, hw9, hw1, hz, hsz⟩, k⟩ := h
  show r_stairs_and_rest Z (ends Q) [some (.ref l0), some (.int w), none, none, none, none, none] H
  unfold r_stairs_and_rest ends
  have hl0 := ha0.len
  walk_at "rd"
  refine lcCopyT (fun R h => by walk_at "rd"; exact h) (dom H) h0 ha0 (by omega) (fun _ h => h) (fun _ => by rfl) (fun _ => by rfl) ?_
  intro l xs1 H1 s1 n1 e1 a1
  walk_at "rd"
  refine ⟨by decide, fun s hs => ?_⟩
  have hsl : s ≠ l := fun z => by rw [z, e1] at hs; cases hs
  have hs0 : H s = none := s1.free hs
  obtain ⟨b0, hb0⟩ := some_le m
  have inv := stF_inv hw hb0
  walk_at "rd"
  refine forR (n := w) (fun n σ H2 => ∃ s xs ys a b c, σ = [some (.ref l0), some (.int w), some (.ref l), a, some (.ref s), b, c] ∧ Same H H2 ∧ H s = none ∧ s ≠ l ∧ H2 s = some (.lst xs) ∧ H2 l = some (.lst ys) ∧
    All2 (rep (off H2 (wth (wth (dom H) l) s))) xs (stF m n).1 ∧ All2 (rep (off H2 (wth (wth (dom H) l) s))) ys (stF m n).2)
    ⟨s, [], xs1, _, _, _, rfl, s1.trans (same_new hs), hs0, hsl, upd_same, by rw [upd_ne hsl.symm]; exact e1, trivial, ?_⟩ ?_ ?_
  · refine all2_mono (off_imp (same_new hs) fun a h => ?_) a1
    rcases h with h | h
    · exact .inl h
    · exact .inr (h ▸ hs)
  · rintro n σ H2 hn ⟨s, xs, ys, a, b1, c, rfl, sm, hs0, hsl, hs2, hl2, ha2, hy2⟩
    obtain ⟨v1, v2, v3, v4, v5, v6, v7⟩ := inv n
    have hlx := ha2.len
    have hly := hy2.len
    obtain ⟨⟨b', ok, hb'⟩, cm⟩ := hsz.step hw n hn
    have hMd : ∀ a, wth (wth (dom H) l) s a → dom H2 a := fun a h => by
      rcases h with (h | h) | h
      · exact dom_same sm h
      · exact h ▸ dom_of hl2
      · exact h ▸ dom_of hs2
    show tSeq _ _ _ [some (.ref l0), some (.int w), some (.ref l), a, some (.ref s), some (.int (n : Int)), c] H2
    walk_at "rd"
    refine ⟨l, n, w', b', wth (wth (dom H) l) s, (stF m n).2, ys, rfl, hl2, .inl (.inr rfl), hMd, hy2, v2, by omega, hw1, by omega, ok, hb', ?_⟩
    intro v ys' H3 ch3 hl3 hy3 hv3
    have hs3 : H3 s = some (.lst xs) := ch3 _ _ hsl hs2
    have ha3 : All2 (rep (off H3 (wth (wth (dom H) l) s))) xs (stF m n).1 := all2_mono (ch3.off (.inl (.inr rfl))) ha2
    have sm3 : Same H H3 := fun a o e => ch3 a o (fun z => by rw [z, n1] at e; cases e) (sm a o e)
    have eS : stF m (n + 1) = stStep (stF m n) n := stF_succ m n
    unfold stStep at eS
    cases ep : pull (stF m n).2 n with
    | mk o l' =>
      rw [ep] at eS hy3 hv3
      cases o with
      | none =>
        obtain rfl : v = .non := hv3
        walk_at "rd"
        exact ⟨s, xs, ys', _, _, _, rfl, sm3, hs0, hsl, hs3, hl3, by rw [eS]; exact ha3, by rw [eS]; exact hy3⟩
      | some r =>
        obtain ⟨vn, hv4⟩ := hv3
        obtain ⟨q6, rfl, hq6⟩ := rep_row.mp hv4
        have hq6' := off_same _ _ hq6
        obtain ⟨r1, _, _, r2, _⟩ := pull_some v2 ep
        have cm := cm r (by rw [ep])
        have g2 := at0_get (r := r) (i := n) (by omega)
        walk_at "rd"
        refine lcLT (fun R h => by walk_at "rd"; exact h) (wth (dom H) l) (fun i => lsd n r ((stF m n).1.getD i [])) (SqL.of hs3) (by omega) (fun a h => by
            rcases h with h | h
            · exact dom_same sm3 h
            · exact h ▸ dom_of hl3) (fun _ => rfl) (fun i x H4 M1 hi s4 s4' dm R k4 => ?_) ?_
        · have hi2 := (List.getElem?_eq_some_iff.mp hi).1
          obtain ⟨q, h1, h2⟩ := mat_at ha3 (i := i) (by omega)
          rw [h1] at hi
          cases hi
          have h3 := s4 _ _ (off_same _ _ h2)
          have h5 := s4 _ _ hq6'
          have e1 := v1.get (i := i) (by omega)
          have g1 := at0_get (r := (stF m n).1.getD i []) (i := n) (by omega)
          show tCall _ _ _ _ [some (.ref l0), some (.int w), some (.ref l), some (.ref q), some (.ref s), some (.int (n : Int)), some (.ref q6)] H4 R
          walk_at "rd"
          refine w_I (by omega) ?_
          walk_at "rd"
          refine ⟨.ref q, _, .ref q6, _, r, rfl, rep_row_of h3, rep_row_of h5, by omega, by omega, fun j => cm i (by omega) j, ?_⟩
          intro p7 H7 s7 n7 e7
          exact k4 _ _ s7 (rep_row_of (off_in (fun z => dm _ z n7) e7))
        · intro s' xs' H5 s5 n5 e5 a5
          have hlx' := a5.len
          rw [List.length_map, List.length_range] at hlx'
          have hs'l : s' ≠ l := fun z => by rw [z, hl3] at n5; cases n5
          walk_at "rd"
          refine w_app e5 (by omega) ?_
          walk_at "rd"
          have of5 : Same (off H3 (wth (wth (dom H) l) s)) (off H5 (wth (wth (dom H) l) s')) := off_imp s5 fun a h => by
            rcases h with h | h
            · exact .inl (.inl h)
            · exact .inr (h ▸ n5)
          refine ⟨s', xs' ++ [.ref q6], ys', _, _, _, rfl, same_mut (sm3.trans s5) (sm3.free n5), sm3.free n5, hs'l, upd_same, by rw [upd_ne hs'l.symm]; exact s5 _ _ hl3, ?_, ?_⟩
          · rw [off_upd wth_l, eS]
            refine All2.snoc ?_ (rep_row_of (of5 _ _ hq6))
            rw [hlx] at a5
            have em : (stF m n).1.map (lsd n r) = (List.range (stF m n).1.length).map fun i => lsd n r ((stF m n).1.getD i []) := by
              conv => lhs; rw [← list_eq_range (stF m n).1]
              rw [List.map_map]
              rfl
            rw [em]
            exact a5
          · rw [off_upd wth_l, eS]
            exact all2_mono of5 hy3
  · rintro σ H2 ⟨s, xs, ys, a, b1, c, rfl, sm, hs0, hsl, hs2, hl2, ha2, hy2⟩
    walk_at "rd"
    refine ⟨small _ (by simp), fun p hp => ?_⟩
    have nsp : s ≠ p := fun z => by rw [z, hp] at hs2; cases hs2
    have nlp : l ≠ p := fun z => by rw [z, hp] at hl2; cases hl2
    exact k p s l xs ys _ (sm.trans (same_new hp)) (sm.free hp) hs0 n1 hsl upd_same (by rw [upd_ne nsp]; exact hs2) (by rw [upd_ne nlp]; exact hl2) (all2_mono (off_mono (same_new hp)) ha2) (all2_mono (off_mono (same_new hp)) hy2)
def sp_stairs_of (Z : Ctx) : Sp := spStairs
abbrev r_stairs_of (Z : Ctx) : TS := (tRet (tOp (rIxGT Z.K) (tCall (sp_stairs_and_rest Z) [] E0 (tCons (tVar 0) (tCons (tVar 1) tNil))) (tC (.int 0))))
theorem ln_stairs_of : sp_stairs_of Z vs H Q E → vs.length = 2 := by rintro ⟨_, _, _, _, _, rfl, _⟩; rfl
abbrev nm_stairs_of : List Str := ["rows", "width"]
theorem rd_stairs_of (h : sp_stairs_of Z vs H Q E) : r_stairs_of Z (ends Q) (L2.start nm_stairs_of vs) H := by
  obtain ⟨v, w, w', b, m, rfl, hr, pre, k⟩ := h
  show r_stairs_of Z (ends Q) [some v, some (.int w)] H
  unfold r_stairs_of ends
  walk_at "rd"
  refine ⟨v, w, w', b, m, rfl, hr, pre, fun p s l xs ys H' sm hp hs hl hsl ep es el ha hy => ?_⟩
  walk_at "rd"
  refine w_ixTat 0 0 rfl ep rfl ?_
  exact k s xs H' sm hs es (all2_mono (off_less fun a h => by
    rcases h with h | h
    · exact .inl (.inl h)
    · exact .inr h) ha)
end
end G
end
section
set_option Elab.async false
set_option linter.all false
set_option maxRecDepth 100000
namespace G
open PySem L2 PyProof.Rows
local macro_rules | `(tactic| walk_at "rd") => `(tactic| repeat (first
  | (with_reducible refine v_seq ?_)
  | (with_reducible refine v_asg ?_)
  | (with_reducible refine w_cons ?_)
  | (with_reducible refine w_nil ?_)
  | (with_reducible refine w_op ?_)
  | (with_reducible refine w_c ?_)
  | (with_reducible refine w_I0 ?_)
  | (with_reducible refine w_cb ?_)
  | (with_reducible refine w_call ?_)
  | (with_reducible refine v_ret ?_)
  | (with_reducible refine v_next ?_)
  | (with_reducible refine w_ixR (by assumption) (by assumption) ?_)
  | (with_reducible refine w_ix (by assumption) (by assumption) ?_)
  | (with_reducible refine w_test ?_)
  | (with_reducible refine w_tB ?_)
  | (with_reducible refine w_and ?_)
  | (with_reducible refine w_or ?_)
  | (with_reducible refine w_not ?_)
  | (with_reducible refine w_ifE ?_)
  | (with_reducible refine v_ifS ?_)
  | (with_reducible refine w_tt ?_)
  | (with_reducible refine w_ff ?_)
  | (with_reducible refine w_eqI ?_)
  | (with_reducible refine w_neI ?_)
  | (with_reducible refine w_U ?_)
  | (with_reducible refine w_un ?_)
  | (with_reducible refine w_len (by assumption) ?_)
  | (with_reducible refine w_abs ?_)
  | (with_reducible refine w_int ?_)
  | (with_reducible refine w_isN0 ?_)
  | (with_reducible refine w_isN1 (by assumption) ?_)
  | (with_reducible refine w_isN1 ne_in ?_)
  | (with_reducible refine w_isN1 ne_rn ?_)
  | (with_reducible refine w_notN0 ?_)
  | (with_reducible refine w_notN1 ne_in ?_)
  | (with_reducible refine w_notN1 ne_rn ?_)
  | (with_reducible refine v_lst ?_)
  | (with_reducible refine v_tup ?_)
  | (with_reducible refine w_notN1 (by assumption) ?_)
  | (with_reducible refine v_drop ?_)
  | (with_reducible refine w_bm ?_)
  | (with_reducible refine v_for ?_)
  | (with_reducible refine v_rng1 ?_)
  | (with_reducible refine v_rng2 ?_)
  | (with_reducible refine v_list ?_)
  | (with_reducible refine w_sub ?_)
  | (with_reducible refine v_ip ?_)
  | (with_reducible refine v_augS ?_)
  | (with_reducible refine v_retN ?_)
  | (with_reducible refine w_yes ?_)
  | (with_reducible refine tv_0 ?_)
  | (with_reducible refine nv_0 ?_)
  | (with_reducible refine av_0 ?_)
  | (with_reducible refine tv_1 ?_)
  | (with_reducible refine nv_1 ?_)
  | (with_reducible refine av_1 ?_)
  | (with_reducible refine tv_2 ?_)
  | (with_reducible refine nv_2 ?_)
  | (with_reducible refine av_2 ?_)
  | (with_reducible refine tv_3 ?_)
  | (with_reducible refine nv_3 ?_)
  | (with_reducible refine av_3 ?_)
  | (with_reducible refine tv_4 ?_)
  | (with_reducible refine nv_4 ?_)
  | (with_reducible refine av_4 ?_)
  | (with_reducible refine tv_5 ?_)
  | (with_reducible refine nv_5 ?_)
  | (with_reducible refine av_5 ?_)
  | (with_reducible refine tv_6 ?_)
  | (with_reducible refine nv_6 ?_)
  | (with_reducible refine av_6 ?_)
  | (with_reducible refine tv_7 ?_)
  | (with_reducible refine nv_7 ?_)
  | (with_reducible refine av_7 ?_)
  | (with_reducible refine tv_8 ?_)
  | (with_reducible refine nv_8 ?_)
  | (with_reducible refine av_8 ?_)
  | (with_reducible refine tv_9 ?_)
  | (with_reducible refine nv_9 ?_)
  | (with_reducible refine av_9 ?_)
  | (with_reducible refine tv_10 ?_)
  | (with_reducible refine nv_10 ?_)
  | (with_reducible refine av_10 ?_)
  | (with_reducible refine tv_11 ?_)
  | (with_reducible refine nv_11 ?_)
  | (with_reducible refine av_11 ?_)
  | (with_reducible refine tv_12 ?_)
  | (with_reducible refine nv_12 ?_)
  | (with_reducible refine av_12 ?_)
  | (with_reducible refine tv_13 ?_)
  | (with_reducible refine nv_13 ?_)
  | (with_reducible refine av_13 ?_)
  | (with_reducible refine tv_14 ?_)
  | (with_reducible refine nv_14 ?_)
  | (with_reducible refine av_14 ?_)
  | (with_reducible refine tv_15 ?_)
  | (with_reducible refine nv_15 ?_)
  | (with_reducible refine av_15 ?_)
  | (with_reducible refine ⟨_, rfl, ⟨_, SqL.of (by assumption)⟩, ?_⟩)
  | (with_reducible refine ⟨_, rfl, (by omega), (by omega), ?_⟩)
  | (with_reducible refine ⟨w_tyL (by assumption), ?_⟩)
  | (with_reducible refine w_isiII ?_)
  | (with_reducible refine w_isiIB ?_)
  | (with_reducible refine w_isiBB ?_)
  | (with_reducible refine w_isiBI ?_)
  | (with_reducible refine w_isiNL ?_)
  | (with_reducible refine w_isiLL (by assumption) ?_)
  | (with_reducible refine v_sl ?_)
  | (with_reducible refine w_nff ?_)
  | (with_reducible refine w_ntt ?_)
  | (with_reducible refine v_chain ?_)
  | (with_reducible refine v_andV ?_)
  | (with_reducible refine v_orV ?_)
  | (with_reducible refine v_notV ?_)
  | (with_reducible refine v_noP ?_)
  | (with_reducible refine v_part ?_)
  | (with_reducible refine v_fld ?_)
  | (with_reducible refine v_sfld ?_)
  | (with_reducible refine ⟨_, (rfl : V.bl _ = V.bl _), ?_⟩)
  | (with_reducible refine ⟨_, (rfl : V.ref _ = V.ref _), ?_⟩)
  | (with_reducible refine ⟨_, (rfl : [V.int _] = [V.int _]), ?_⟩)
  | (with_reducible refine ⟨_, (rfl : V.int _ = V.int _), ?_⟩)
  | (with_reducible refine ⟨⟨_, SqL.of (by assumption)⟩, ?_⟩)
  | (with_reducible refine ⟨(by (first | omega | (rw [lenV]; omega)) : -(2 ^ 62) ≤ _), (by first | omega | (rw [lenV]; omega)), ?_⟩)
  ))
section
variable {Z : Ctx} {vs : List V} {H : Hp} {Q : VK} {E : XK}
theorem sp_ck {Q : Prop} (h : Q) : Q := h
def sp_check_most (Z : Ctx) : Sp := fun vs H Q _ => ∃ s, ∃ n k : Int, vs = [.str s, .int n, .int k] ∧ n ≤ k ∧ Q .non H
abbrev r_check_most (Z : Ctx) : TS := (tIfS (tAnd (tB (tCB (rIsi Z.K) (tCons (tVar 1) (tCons (tC (.ty "int")) tNil)))) (tAnd (tNot (tB (tCB (rIsi Z.K) (tCons (tVar 1) (tCons (tC (.ty "bool")) tNil))))) (tTest (tOp rGtI (tVar 1) (tVar 2))))) tNever tNext)
theorem ln_check_most : sp_check_most Z vs H Q E → vs.length = 3 := by rintro ⟨_, _, _, rfl, _⟩; rfl
abbrev nm_check_most : List Str := ["what", "many", "most"]
theorem rd_check_most (h : sp_check_most Z vs H Q E) : r_check_most Z (ends Q) (L2.start nm_check_most vs) H := by
  obtain ⟨s, n, k, rfl, hk, q⟩ := h
  show r_check_most Z (ends Q) [some (.str s), some (.int n), some (.int k)] H
  unfold r_check_most ends
  walk_at "rd"
  refine w_ite (fun h => by omega) (fun h => ?_)
  walk_at "rd"
  exact q
def sp_check_numbers (Z : Ctx) : Sp := fun vs H Q _ => ∃ v, ∃ k : Int, ∃ r : Row, vs = [v, .int k] ∧ rep H v r ∧ (∀ x ∈ r, -k ≤ x ∧ x ≤ k) ∧ Q .non H
abbrev r_check_numbers (Z : Ctx) : TS := (tFor (iList Z.K (tVar 0)) (gName 2) (tIfS (tAnd (tB (tCB (rIsi Z.K) (tCons (tVar 2) (tCons (tC (.ty "int")) tNil)))) (tAnd (tNot (tB (tCB (rIsi Z.K) (tCons (tVar 2) (tCons (tC (.ty "bool")) tNil))))) (tNot (tTest (tChain rLeI rLeI (tUn uNegI (tVar 1)) (tVar 2) (tVar 1)))))) tNever tNext))
theorem ln_check_numbers : sp_check_numbers Z vs H Q E → vs.length = 2 := by rintro ⟨_, _, _, rfl, _⟩; rfl
abbrev nm_check_numbers : List Str := ["numbers", "most", "number"]
theorem rd_check_numbers (h : sp_check_numbers Z vs H Q E) : r_check_numbers Z (ends Q) (L2.start nm_check_numbers vs) H := by
  obtain ⟨v, k, r, rfl, hr, hk, q⟩ := h
  obtain ⟨p, rfl, hp⟩ := rep_row.mp hr
  show r_check_numbers Z (ends Q) [some (.ref p), some (.int k), none] H
  unfold r_check_numbers ends
  walk_at "rd"
  refine forL (fun i σ H' => ∃ w, σ = [some (.ref p), some (.int k), w] ∧ H' = H) ⟨_, rfl, rfl⟩ (fun i σ H' _ ⟨w, e, h⟩ => h ▸ SqL.of hp) ?_ ?_
  · rintro i x σ H' hi ⟨w, rfl, rfl⟩
    obtain ⟨z, hz, rfl⟩ := row_at hi
    have := hk z (List.mem_of_getElem? hz)
    walk_at "rd"
    refine w_ite (fun h => ?_) (fun h => by omega)
    walk_at "rd"
    refine w_nite (fun h => ?_) (fun h => by omega)
    walk_at "rd"
    exact ⟨_, rfl, rfl⟩
  · rintro σ H' ⟨w, rfl, rfl⟩
    exact q
def sp_is_whole (Z : Ctx) : Sp := fun vs H Q _ => ∃ i : Int, vs = [.int i] ∧ Q (.bl true) H
abbrev r_is_whole (Z : Ctx) : TS := (tRet (tAndV (tCB (rIsi Z.K) (tCons (tVar 0) (tCons (tC (.ty "int")) tNil))) (tNotV (tCB (rIsi Z.K) (tCons (tVar 0) (tCons (tC (.ty "bool")) tNil))))))
theorem ln_is_whole : sp_is_whole Z vs H Q E → vs.length = 1 := by rintro ⟨_, rfl, _⟩; rfl
abbrev nm_is_whole : List Str := ["value"]
theorem rd_is_whole (h : sp_is_whole Z vs H Q E) : r_is_whole Z (ends Q) (L2.start nm_is_whole vs) H := by
  obtain ⟨i, rfl, q⟩ := h
  show r_is_whole Z (ends Q) [some (.int i)] H
  unfold r_is_whole ends
  walk_at "rd"
  exact q
/-- a list of so many whole numbers -/
def sp_whole_list (Z : Ctx) : Sp := fun vs H Q _ => ∃ v, ∃ n : Nat, ∃ r : Row, vs = [v, .int (n : Int)] ∧ rep H v r ∧ r.length = n ∧ n ≤ 1000 ∧ ∀ H', Same H H' → Q (.bl true) H'
abbrev r_whole_list (Z : Ctx) : TS := (tSeq (tIfS (tOr (tNot (tB (tCB (rIsiT Z.K) (tCons (tVar 0) (tCons (tTup (tCons (tC (.ty "list")) (tCons (tC (.ty "tuple")) tNil))) tNil))))) (tTest (tOp rNe (tCB (rLenG Z.K) (tCons (tVar 0) tNil)) (tVar 1)))) (tRet (tC (.bl false))) tNext) (tRet (tOp (rEqD Z.K) (tLc (iList Z.K (tVar 0)) (gName 2) (tNot (tB (tCall (sp_is_whole Z) [] E0 (tCons (tVar 2) tNil)))) (tVar 2) [2]) (tLst tNil))))
theorem ln_whole_list : sp_whole_list Z vs H Q E → vs.length = 2 := by rintro ⟨_, _, _, rfl, _⟩; rfl
abbrev nm_whole_list : List Str := ["value", "many", "one"]
theorem rd_whole_list (h : sp_whole_list Z vs H Q E) : r_whole_list Z (ends Q) (L2.start nm_whole_list vs) H := by
  obtain ⟨v, n, r, rfl, hr, hl, hn, q⟩ := h
  obtain ⟨p, rfl, hp⟩ := rep_row.mp hr
  show r_whole_list Z (ends Q) [some (.ref p), some (.int n), none] H
  unfold r_whole_list ends
  walk_at "rd"
  refine ⟨small _ (by simp), fun t ht => ?_⟩
  have hp1 := same_new (o := .tup [.ty "list", .ty "tuple"]) ht _ _ hp
  walk_at "rd"
  refine w_isiLT hp1 upd_same ?_
  walk_at "rd"
  rw [lenV, hl]
  refine w_ite (fun h => by omega) (fun h => ?_)
  walk_at "rd"
  refine lcLF (β := Int) (xs := r.map V.int) (fun R h => by walk_at "rd"; exact h) (dom _) (fun _ => false) (fun _ => 0) (SqL.of hp1) (by rw [lenV]; omega) (fun _ h => h) (fun _ => rfl) (fun i x H1 hi s R k => ?_) (fun i x H1 M1 _ h => by cases h) ?_
  · obtain ⟨z, hz, rfl⟩ := row_at hi
    show tNot _ [some (.ref p), some (.int n), some (.int z)] H1 R
    walk_at "rd"
    refine ⟨z, rfl, ?_⟩
    walk_at "rd"
    exact k _ (.refl _)
  · intro l xs H1 s1 n1 e1 a1
    walk_at "rd"
    refine ⟨small _ (by simp), fun l2 h2 => ?_⟩
    have e2 := same_new (o := .lst []) h2 _ _ e1
    have ex : xs = [] := by
      have := a1.len
      rw [List.filter_eq_nil_iff.mpr (fun _ _ => Bool.false_ne_true)] at this
      exact List.eq_nil_of_length_eq_zero this
    subst ex
    refine w_eqD (α := Row) (a := []) (b := []) (rep_row_of e2) (rep_row_of upd_same) ?_
    exact q _ (((same_new ht).trans s1).trans (same_new h2))
def sp_check_rows (Z : Ctx) : Sp := fun vs H Q _ => ∃ v, ∃ w : Nat, ∃ m : Mat, vs = [v, .int (w : Int)] ∧ rep H v m ∧ Wid w m ∧ w ≤ 1000 ∧ m.length ≤ 1000 ∧ ∀ H', Same H H' → Q .non H'
abbrev r_check_rows (Z : Ctx) : TS := (tFor (iRng1 (tCons (tCB (rLenG Z.K) (tCons (tVar 0) tNil)) tNil)) (gName 2) (tIfS (tNot (tB (tCall (sp_whole_list Z) [] E0 (tCons (tOp (rIxG Z.K) (tVar 0) (tVar 2)) (tCons (tVar 1) tNil))))) tNever tNext))
theorem ln_check_rows : sp_check_rows Z vs H Q E → vs.length = 2 := by rintro ⟨_, _, _, rfl, _⟩; rfl
abbrev nm_check_rows : List Str := ["rows", "width", "place"]
theorem rd_check_rows (h : sp_check_rows Z vs H Q E) : r_check_rows Z (ends Q) (L2.start nm_check_rows vs) H := by
  obtain ⟨v, w, m, rfl, ⟨l, xs, rfl, hl, ha⟩, hw, hw1, hz, q⟩ := h
  show r_check_rows Z (ends Q) [some (.ref l), some (.int w), none] H
  unfold r_check_rows ends
  have hlen := ha.len
  walk_at "rd"
  refine forR (n := xs.length) (fun i σ H' => ∃ a, σ = [some (.ref l), some (.int w), a] ∧ Same H H') ⟨_, rfl, .refl _⟩ ?_ ?_
  · rintro i σ H' hi ⟨a, rfl, s⟩
    obtain ⟨q1, h1, h2⟩ := mat_at ha (i := i) (by omega)
    have h3 := s _ _ hl
    show tIfS _ _ _ _ [some (.ref l), some (.int w), some (.int (i : Int))] H'
    walk_at "rd"
    refine ⟨.ref q1, w, _, rfl, rep_row_of (s _ _ h2), hw.get (by omega), hw1, fun H2 s2 => ?_⟩
    walk_at "rd"
    exact ⟨_, rfl, s.trans s2⟩
  · rintro σ H' ⟨a, rfl, s⟩
    exact q _ s
def sp_check_asked (Z : Ctx) : Sp := fun vs H Q _ => ∃ v, ∃ w : Nat, ∃ m : Mat, vs = [v, .int (w : Int)] ∧ rep H v m ∧ Wid w m ∧ w ≤ 1000 ∧ m.length ≤ 1000 ∧ (∀ r ∈ m, ∀ x ∈ r, -1000000000000000000000000000000 ≤ x ∧ x ≤ 1000000000000000000000000000000) ∧ ∀ H', Same H H' → Q .non H'
abbrev r_check_asked (Z : Ctx) : TS := (tSeq (tFor (iList Z.K (tVar 0)) (gName 2) (tDrop (tCall (sp_check_numbers Z) [] E0 (tCons (tVar 2) (tCons (tC (.int 1000000000000000000000000000000)) tNil))))) (tDrop (tCall (sp_check_rows Z) [] E0 (tCons (tVar 0) (tCons (tVar 1) tNil)))))
theorem ln_check_asked : sp_check_asked Z vs H Q E → vs.length = 2 := by rintro ⟨_, _, _, rfl, _⟩; rfl
abbrev nm_check_asked : List Str := ["rows", "width", "row"]
theorem rd_check_asked (h : sp_check_asked Z vs H Q E) : r_check_asked Z (ends Q) (L2.start nm_check_asked vs) H := by
  obtain ⟨v, w, m, rfl, ⟨l, xs, rfl, hl, ha⟩, hw, hw1, hz, hb, q⟩ := h
  show r_check_asked Z (ends Q) [some (.ref l), some (.int w), none] H
  unfold r_check_asked ends
  have hlen := ha.len
  walk_at "rd"
  refine forL (fun i σ H' => ∃ a, σ = [some (.ref l), some (.int w), a] ∧ H' = H) ⟨_, rfl, rfl⟩ (fun i σ H' _ ⟨a, e, h⟩ => h ▸ SqL.of hl) ?_ ?_
  · rintro i x σ H' hi ⟨a, rfl, rfl⟩
    have hi2 := (List.getElem?_eq_some_iff.mp hi).1
    obtain ⟨q1, h1, h2⟩ := mat_at ha (i := i) (by omega)
    rw [h1] at hi
    cases hi
    walk_at "rd"
    refine ⟨.ref q1, _, m.getD i [], rfl, rep_row_of h2, hb _ (getD_mem (by omega)), ?_⟩
    exact ⟨_, rfl, rfl⟩
  · rintro σ H' ⟨a, rfl, rfl⟩
    walk_at "rd"
    exact ⟨.ref l, w, m, rfl, ⟨l, xs, rfl, hl, ha⟩, hw, hw1, hz, q⟩
/-- the first place that is not 0 -/
def sp_lead_place (Z : Ctx) : Sp := fun vs H Q _ => ∃ v, ∃ r : Row, ∃ q : Nat, vs = [v] ∧ rep H v r ∧ leadAt r q ∧ r.length ≤ 1000 ∧ Q (.int (q : Int)) H
abbrev r_lead_place (Z : Ctx) : TS := (tSeq (tFor (iRng1 (tCons (tCB (rLenG Z.K) (tCons (tVar 0) tNil)) tNil)) (gName 1) (tIfS (tTest (tOp rNe (tOp (rIxG Z.K) (tVar 0) (tVar 1)) (tC (.int 0)))) (tRet (tVar 1)) tNext)) (tRet (tC .non)))
theorem ln_lead_place : sp_lead_place Z vs H Q E → vs.length = 1 := by rintro ⟨_, _, _, rfl, _⟩; rfl
abbrev nm_lead_place : List Str := ["row", "place"]
theorem rd_lead_place (h : sp_lead_place Z vs H Q E) : r_lead_place Z (ends Q) (L2.start nm_lead_place vs) H := by
  obtain ⟨v, r, q, rfl, hr, hq, hz, k⟩ := h
  obtain ⟨p, rfl, hp⟩ := rep_row.mp hr
  show r_lead_place Z (ends Q) [some (.ref p), none] H
  unfold r_lead_place ends
  walk_at "rd"
  refine forR (n := (r.map V.int).length) (fun i σ H' => ∃ a, σ = [some (.ref p), a] ∧ H' = H ∧ i ≤ q) ⟨_, rfl, rfl, Nat.zero_le _⟩ ?_ ?_
  · rintro i σ H' hi ⟨a, rfl, rfl, hiq⟩
    rw [lenV] at hi
    have g := at0_get (r := r) (i := i) hi
    show tIfS _ _ _ _ [some (.ref p), some (.int (i : Int))] H'
    walk_at "rd"
    refine w_ite (fun h => ?_) (fun h => ?_)
    · walk_at "rd"
      have : i = q := by
        by_cases e : i < q
        · exact absurd (hq.2.2 i e) h
        · omega
      rw [this]
      exact k
    · walk_at "rd"
      have : i ≠ q := fun z => by rw [z] at h; exact h hq.2.1
      exact ⟨_, rfl, rfl, by omega⟩
  · rintro σ H' ⟨a, rfl, rfl, hiq⟩
    rw [lenV] at hiq
    have := hq.1
    omega
theorem lsd_noop {p : Nat} {l r : Row} (h : r.length = l.length) (e : at0 r p = 0) : lsd p l r = r := by
  unfold lsd
  rw [e, Int.zero_fdiv]
  exact less_zero h
/-- what stairs leave of a row -/
def RedPre (S : Mat) (r : Row) (a b : Nat) : Prop := Wid r.length S ∧ r.length ≤ 1000 ∧ S.length ≤ 1000 ∧ (∀ i, i < S.length → ∃ q, leadAt (S.getD i []) q) ∧ Le (2 ^ b) S ∧ RB (2 ^ a) r ∧ a + S.length * (b + 1) + b + 4 ≤ 134217728
def spRed : Sp := fun vs H Q _ => ∃ v u, ∃ S : Mat, ∃ r : Row, ∃ a b : Nat, vs = [v, u] ∧ rep H v S ∧ rep H u r ∧ RedPre S r a b ∧ NewR H (red S r) Q
def sp_reduced_row (Z : Ctx) : Sp := spRed
abbrev r_reduced_row (Z : Ctx) : TS := (tSeq (tAsg (tCB (rLstG Z.K) (tCons (tVar 1) tNil)) (gName 2)) (tSeq (tFor (iList Z.K (tVar 0)) (gName 3) (tSeq (tAsg (tCall (sp_lead_place Z) [] E0 (tCons (tVar 3) tNil)) (gName 4)) (tIfS (tTest (tOp rNe (tOp (rIxG Z.K) (tVar 2) (tVar 4)) (tC (.int 0)))) (tAsg (tCall (sp_lessened_row Z) [] E0 (tCons (tVar 2) (tCons (tOp rDivI (tOp (rIxG Z.K) (tVar 2) (tVar 4)) (tOp (rIxG Z.K) (tVar 3) (tVar 4))) (tCons (tVar 3) tNil)))) (gName 2)) tNext))) (tRet (tVar 2))))
theorem ln_reduced_row : sp_reduced_row Z vs H Q E → vs.length = 2 := by rintro ⟨_, _, _, _, _, _, rfl, _⟩; rfl
abbrev nm_reduced_row : List Str := ["stairs", "row", "left", "stair", "place"]
theorem rd_reduced_row (h : sp_reduced_row Z vs H Q E) : r_reduced_row Z (ends Q) (L2.start nm_reduced_row vs) H := by
  obtain ⟨v, u, S, r, a, b, rfl, ⟨l, xs, rfl, hl, ha⟩, hr, ⟨hW, hr1, hS1, hlead, hb, hrb, hsz⟩, k⟩ := h
  obtain ⟨p, rfl, hp⟩ := rep_row.mp hr
  show r_reduced_row Z (ends Q) [some (.ref l), some (.ref p), none, none, none] H
  unfold r_reduced_row ends
  have hlen := ha.len
  walk_at "rd"
  refine w_lst hp fun q0 hq0 => ?_
  have hl' := same_new (o := .lst (r.map V.int)) hq0 _ _ hl
  walk_at "rd"
  refine forL (xs := xs) (fun i σ H' => ∃ q c d, σ = [some (.ref l), some (.ref p), some (.ref q), c, d] ∧ Same H H' ∧ H q = none ∧ H' q = some (.lst ((redF S r i).map V.int))) ⟨q0, _, _, rfl, same_new hq0, hq0, upd_same⟩ (fun i σ H' _ ⟨q, c, d, e, s, _⟩ => SqL.of (s _ _ hl)) ?_ ?_
  · rintro i x σ H' hi ⟨q, c, d, rfl, s, hq, eq⟩
    have hi2 := (List.getElem?_eq_some_iff.mp hi).1
    obtain ⟨q1, h1, h2⟩ := mat_at ha (i := i) (by omega)
    rw [h1] at hi
    cases hi
    have h3 := s _ _ h2
    obtain ⟨z, hz⟩ := hlead i (by omega)
    obtain ⟨f1, f2⟩ := redF_inv hW rfl hb hrb i (by omega)
    have wl := hW.get (i := i) (by omega)
    have g1 := at0_get (r := redF S r i) (i := z) (by have := hz.1; omega)
    have g2 := at0_get (r := S.getD i []) (i := z) hz.1
    have eS : redF S r (i + 1) = lsd z (S.getD i []) (redF S r i) := by
      rw [redF_succ (by omega)]
      unfold redStep
      rw [leadPl_eq hz]
    walk_at "rd"
    refine ⟨.ref q1, S.getD i [], z, rfl, rep_row_of h3, hz, by omega, ?_⟩
    walk_at "rd"
    refine w_ite (fun h => ?_) (fun h => ?_)
    · walk_at "rd"
      refine w_I hz.2.1 ?_
      walk_at "rd"
      refine ⟨.ref q, _, .ref q1, redF S r i, S.getD i [], rfl, rep_row_of eq, rep_row_of h3, by omega, by omega, fun j => ?_, ?_⟩
      · refine CMulG.of (bd_of (Nat.le_trans (fdiv_abs _ _) (f2 z))) (bd_of (hb i j)) ?_
        have : i * (b + 1) ≤ S.length * (b + 1) := Nat.mul_le_mul_right _ (by omega)
        omega
      intro p3 H3 s3 n3 e3
      walk_at "rd"
      refine ⟨p3, _, _, rfl, s.trans s3, s.free n3, ?_⟩
      rw [eS]
      exact e3
    · walk_at "rd"
      refine ⟨q, _, _, rfl, s, hq, ?_⟩
      rw [eS, lsd_noop (by omega) (by omega)]
      exact eq
  · rintro σ H' ⟨q, c, d, rfl, s, hq, eq⟩
    walk_at "rd"
    rw [hlen, redF_all] at eq
    exact k q H' s hq eq
end
end G
end
section
set_option Elab.async false
set_option linter.all false
set_option maxRecDepth 100000
namespace G
open PySem L2 PyProof.Rows
local macro_rules | `(tactic| walk_at "rd") => `(tactic| repeat (first
  | (with_reducible refine v_seq ?_)
  | (with_reducible refine v_asg ?_)
  | (with_reducible refine w_cons ?_)
  | (with_reducible refine w_nil ?_)
  | (with_reducible refine w_op ?_)
  | (with_reducible refine w_c ?_)
  | (with_reducible refine w_I0 ?_)
  | (with_reducible refine w_cb ?_)
  | (with_reducible refine w_call ?_)
  | (with_reducible refine v_ret ?_)
  | (with_reducible refine v_next ?_)
  | (with_reducible refine w_ixR (by assumption) (by assumption) ?_)
  | (with_reducible refine w_ix (by assumption) (by assumption) ?_)
  | (with_reducible refine w_test ?_)
  | (with_reducible refine w_tB ?_)
  | (with_reducible refine w_and ?_)
  | (with_reducible refine w_or ?_)
  | (with_reducible refine w_not ?_)
  | (with_reducible refine w_ifE ?_)
  | (with_reducible refine v_ifS ?_)
  | (with_reducible refine w_tt ?_)
  | (with_reducible refine w_ff ?_)
  | (with_reducible refine w_eqI ?_)
  | (with_reducible refine w_neI ?_)
  | (with_reducible refine w_U ?_)
  | (with_reducible refine w_un ?_)
  | (with_reducible refine w_len (by assumption) ?_)
  | (with_reducible refine w_abs ?_)
  | (with_reducible refine w_int ?_)
  | (with_reducible refine w_isN0 ?_)
  | (with_reducible refine w_isN1 (by assumption) ?_)
  | (with_reducible refine w_isN1 ne_in ?_)
  | (with_reducible refine w_isN1 ne_rn ?_)
  | (with_reducible refine w_notN0 ?_)
  | (with_reducible refine w_notN1 ne_in ?_)
  | (with_reducible refine w_notN1 ne_rn ?_)
  | (with_reducible refine v_lst ?_)
  | (with_reducible refine v_tup ?_)
  | (with_reducible refine w_notN1 (by assumption) ?_)
  | (with_reducible refine v_drop ?_)
  | (with_reducible refine w_bm ?_)
  | (with_reducible refine v_for ?_)
  | (with_reducible refine v_rng1 ?_)
  | (with_reducible refine v_rng2 ?_)
  | (with_reducible refine v_list ?_)
  | (with_reducible refine w_sub ?_)
  | (with_reducible refine v_ip ?_)
  | (with_reducible refine v_augS ?_)
  | (with_reducible refine v_retN ?_)
  | (with_reducible refine w_yes ?_)
  | (with_reducible refine tv_0 ?_)
  | (with_reducible refine nv_0 ?_)
  | (with_reducible refine av_0 ?_)
  | (with_reducible refine tv_1 ?_)
  | (with_reducible refine nv_1 ?_)
  | (with_reducible refine av_1 ?_)
  | (with_reducible refine tv_2 ?_)
  | (with_reducible refine nv_2 ?_)
  | (with_reducible refine av_2 ?_)
  | (with_reducible refine tv_3 ?_)
  | (with_reducible refine nv_3 ?_)
  | (with_reducible refine av_3 ?_)
  | (with_reducible refine tv_4 ?_)
  | (with_reducible refine nv_4 ?_)
  | (with_reducible refine av_4 ?_)
  | (with_reducible refine tv_5 ?_)
  | (with_reducible refine nv_5 ?_)
  | (with_reducible refine av_5 ?_)
  | (with_reducible refine tv_6 ?_)
  | (with_reducible refine nv_6 ?_)
  | (with_reducible refine av_6 ?_)
  | (with_reducible refine tv_7 ?_)
  | (with_reducible refine nv_7 ?_)
  | (with_reducible refine av_7 ?_)
  | (with_reducible refine tv_8 ?_)
  | (with_reducible refine nv_8 ?_)
  | (with_reducible refine av_8 ?_)
  | (with_reducible refine tv_9 ?_)
  | (with_reducible refine nv_9 ?_)
  | (with_reducible refine av_9 ?_)
  | (with_reducible refine tv_10 ?_)
  | (with_reducible refine nv_10 ?_)
  | (with_reducible refine av_10 ?_)
  | (with_reducible refine tv_11 ?_)
  | (with_reducible refine nv_11 ?_)
  | (with_reducible refine av_11 ?_)
  | (with_reducible refine tv_12 ?_)
  | (with_reducible refine nv_12 ?_)
  | (with_reducible refine av_12 ?_)
  | (with_reducible refine tv_13 ?_)
  | (with_reducible refine nv_13 ?_)
  | (with_reducible refine av_13 ?_)
  | (with_reducible refine tv_14 ?_)
  | (with_reducible refine nv_14 ?_)
  | (with_reducible refine av_14 ?_)
  | (with_reducible refine tv_15 ?_)
  | (with_reducible refine nv_15 ?_)
  | (with_reducible refine av_15 ?_)
  | (with_reducible refine ⟨_, rfl, ⟨_, SqL.of (by assumption)⟩, ?_⟩)
  | (with_reducible refine ⟨_, rfl, (by omega), (by omega), ?_⟩)
  | (with_reducible refine ⟨w_tyL (by assumption), ?_⟩)
  | (with_reducible refine w_isiII ?_)
  | (with_reducible refine w_isiIB ?_)
  | (with_reducible refine w_isiBB ?_)
  | (with_reducible refine w_isiBI ?_)
  | (with_reducible refine w_isiNL ?_)
  | (with_reducible refine w_isiLL (by assumption) ?_)
  | (with_reducible refine v_sl ?_)
  | (with_reducible refine w_nff ?_)
  | (with_reducible refine w_ntt ?_)
  | (with_reducible refine v_chain ?_)
  | (with_reducible refine v_andV ?_)
  | (with_reducible refine v_orV ?_)
  | (with_reducible refine v_notV ?_)
  | (with_reducible refine v_noP ?_)
  | (with_reducible refine v_part ?_)
  | (with_reducible refine v_fld ?_)
  | (with_reducible refine v_sfld ?_)
  | (with_reducible refine ⟨_, (rfl : V.bl _ = V.bl _), ?_⟩)
  | (with_reducible refine ⟨_, (rfl : V.ref _ = V.ref _), ?_⟩)
  | (with_reducible refine ⟨_, (rfl : [V.int _] = [V.int _]), ?_⟩)
  | (with_reducible refine ⟨_, (rfl : V.int _ = V.int _), ?_⟩)
  | (with_reducible refine ⟨⟨_, SqL.of (by assumption)⟩, ?_⟩)
  | (with_reducible refine ⟨(by (first | omega | (rw [lenV]; omega)) : -(2 ^ 62) ≤ _), (by first | omega | (rw [lenV]; omega)), ?_⟩)
  ))
section
variable {Z : Ctx} {vs : List V} {H : Hp} {Q : VK} {E : XK}
def sp_numbered_rows (Z : Ctx) : Sp := fun vs H Q _ => ∃ v, ∃ w : Nat, ∃ m : Mat, vs = [v] ∧ rep H v m ∧ Wid w m ∧ w ≤ 1000 ∧ m.length ≤ 900 ∧ NewL (dom H) H (numb m) Q
abbrev r_numbered_rows (Z : Ctx) : TS := (tSeq (tAsg (tCB (rLenG Z.K) (tCons (tVar 0) tNil)) (gName 1)) (tRet (tLc (iRng1 (tCons (tVar 1) tNil)) (gName 2) tYes (tOp rCat (tCB (rLstG Z.K) (tCons (tOp (rIxG Z.K) (tVar 0) (tVar 2)) tNil)) (tCall (sp_unit_row Z) [] E0 (tCons (tVar 1) (tCons (tVar 2) tNil)))) [2])))
theorem ln_numbered_rows : sp_numbered_rows Z vs H Q E → vs.length = 1 := by rintro ⟨_, _, _, rfl, _⟩; rfl
abbrev nm_numbered_rows : List Str := ["rows", "many", "number"]
theorem rd_numbered_rows (h : sp_numbered_rows Z vs H Q E) : r_numbered_rows Z (ends Q) (L2.start nm_numbered_rows vs) H := by
  obtain ⟨v, w, m, rfl, ⟨l, xs, rfl, hl, ha⟩, hw, hw1, hz, k⟩ := h
  show r_numbered_rows Z (ends Q) [some (.ref l), none, none] H
  unfold r_numbered_rows ends
  have hlen := ha.len
  walk_at "rd"
  refine lcRT (n := xs.length) (fun R h => by walk_at "rd"; exact h) (dom H) (fun i => m.getD i [] ++ unitR m.length i) (by omega) (fun _ h => h) (fun _ => rfl) (fun i H1 M1 hi s _ dm R k1 => ?_) ?_
  · obtain ⟨q, h1, h2⟩ := mat_at ha (i := i) (by omega)
    have h3 := s _ _ hl
    have h4 := s _ _ h2
    show tOp _ _ _ [some (.ref l), some (.int (xs.length : Int)), some (.int (i : Int))] H1 R
    walk_at "rd"
    refine w_lst h4 fun l1 e1 => ?_
    walk_at "rd"
    refine ⟨xs.length, i, rfl, by omega, fun p2 H2 s2 n2 e2 => ?_⟩
    refine w_cat (s2 _ _ upd_same) e2 (by
      rw [lenV, lenV, hw.get (by omega)]
      simp [unitR]
      omega) fun p3 n3 => ?_
    rw [← List.map_append]
    refine k1 _ _ (((same_new e1).trans s2).trans (same_new n3)) (rep_row_of (off_in (fun z => dom_same ((same_new e1).trans s2) (dm _ z) n3) ?_))
    rw [hlen]
    exact upd_same
  · rw [hlen]
    exact k
/-- 2 ^ 100 is more than 10 ^ 30 -/
def spParts : Sp := fun vs H Q _ => ∃ v u, ∃ w : Nat, ∃ m : Mat, ∃ r : Row, vs = [.int (w : Int), v, u] ∧ rep H v m ∧ rep H u r ∧ Wid w m ∧ w ≤ 9 ∧ m.length ≤ 40 ∧ Le (2 ^ 20) m ∧ r.length = w ∧ RB (2 ^ 100) r ∧ isz (red (stairs m w) r) = true ∧ NewR H (parts m w r) Q
def sp_parts_over (Z : Ctx) : Sp := spParts
abbrev r_parts_over (Z : Ctx) : TS := (tSeq (tAsg (tCall (sp_reduced_row Z) [] E0 (tCons (tCall (sp_stairs_of Z) [] E0 (tCons (tCall (sp_numbered_rows Z) [] E0 (tCons (tVar 1) tNil)) (tCons (tVar 0) tNil))) (tCons (tOp rCat (tCB (rLstG Z.K) (tCons (tVar 2) tNil)) (tCall (sp_zero_row Z) [] E0 (tCons (tCB (rLenG Z.K) (tCons (tVar 1) tNil)) tNil))) tNil))) (gName 3)) (tSeq (tIfS (tNot (tB (tCall (sp_is_zero Z) [] E0 (tCons (tSl (rSlL Z.K) (tVar 3) tNoPart (tPart (tVar 0))) tNil)))) (tRet (tC .non)) tNext) (tRet (tCall (sp_scaled_row Z) [] E0 (tCons (tUn uNegI (tC (.int 1))) (tCons (tSl (rSlL Z.K) (tVar 3) (tPart (tVar 0)) tNoPart) tNil))))))
theorem ln_parts_over : sp_parts_over Z vs H Q E → vs.length = 3 := by rintro ⟨_, _, _, _, _, rfl, _⟩; rfl
abbrev nm_parts_over : List Str := ["width", "rows", "row", "left"]
theorem numb_pre {w : Nat} {m : Mat} (hw : Wid w m) (h9 : w ≤ 9) (hz : m.length ≤ 40) (hb : Le (2 ^ 20) m) : StPre w (w + m.length) 20 (numb m) :=
  ⟨numb_wid hw, by omega, h9, by omega, by rw [numb_length]; omega, .inl ⟨numb_le hb, lb20 (by decide) h9⟩⟩
theorem st_size {w w' : Nat} {m : Mat} (hw : Wid w' m) (h9 : w ≤ 9) (hb : Le (2 ^ 20) m) : Le (2 ^ bigB) (stairs m w) ∧ (stairs m w).length ≤ 9 ∧ Wid w' (stairs m w) := by
  obtain ⟨a, _, c, _, _, d, _⟩ := stF_inv hw hb w
  have h1 := lbit_le 20 w
  have h2 := sbit_le 20 w
  have h3 : (20 + 1) * 4 ^ w ≤ 21 * 4 ^ 9 := Nat.mul_le_mul (by omega) (Nat.pow_le_pow_right (by decide) h9)
  have h4 : 21 * 4 ^ 9 = 5505024 := by decide
  have hB := bigB_eq
  exact ⟨c.mono (by omega), Nat.le_trans d h9, a⟩
theorem rd_parts_over (h : sp_parts_over Z vs H Q E) : r_parts_over Z (ends Q) (L2.start nm_parts_over vs) H := by
  obtain ⟨v, u, w, m, r, rfl, hm, hr, hw, h9, hz, hb, hrl, hrb, his, k⟩ := h
  obtain ⟨p, rfl, hp⟩ := rep_row.mp hr
  obtain ⟨l, xs, rfl, hl, ha⟩ := hm
  show r_parts_over Z (ends Q) [some (.int w), some (.ref l), some (.ref p), none] H
  unfold r_parts_over ends
  have hlen := ha.len
  walk_at "rd"
  refine ⟨.ref l, w, m, rfl, ⟨l, xs, rfl, hl, ha⟩, hw, by omega, by omega, fun p1 xs1 H1 s1 n1 e1 a1 => ?_⟩
  walk_at "rd"
  refine ⟨.ref p1, w, w + m.length, 20, numb m, rfl, ⟨p1, xs1, rfl, e1, all2_mono off_same a1⟩, numb_pre hw h9 hz hb, fun p2 xs2 H2 s2 n2 e2 a2 => ?_⟩
  have hp2 := s2 _ _ (s1 _ _ hp)
  have hl2 := s2 _ _ (s1 _ _ hl)
  walk_at "rd"
  refine w_lst hp2 fun l3 n3 => ?_
  have hl3 := same_new (o := .lst (r.map V.int)) n3 _ _ hl2
  walk_at "rd"
  refine ⟨xs.length, rfl, by omega, fun p4 H4 s4 n4 e4 => ?_⟩
  walk_at "rd"
  refine w_cat (s4 _ _ upd_same) e4 (by rw [lenV, lenV]; simp; omega) fun p5 n5 => ?_
  rw [← List.map_append]
  walk_at "rd"
  have hB := bigB_eq
  obtain ⟨z1, z2, z3⟩ := st_size (numb_wid hw) h9 (numb_le hb)
  have sm2 : Same H2 (upd H4 p5 (.lst ((r ++ List.replicate xs.length 0).map V.int))) := ((same_new n3).trans s4).trans (same_new n5)
  refine ⟨.ref p2, .ref p5, stairs (numb m) w, r ++ List.replicate xs.length 0, 100, bigB, rfl, ⟨p2, xs2, rfl, sm2 _ _ e2, all2_mono ((off_mono sm2).trans off_same) a2⟩, rep_row_of upd_same, ⟨?_, ?_, by omega, ?_, z1, ?_, ?_⟩, fun p6 H6 s6 n6 e6 => ?_⟩
  · rw [List.length_append, List.length_replicate, hrl, hlen]
    exact z3
  · rw [List.length_append, List.length_replicate]
    omega
  · intro i hi
    obtain ⟨q, _, hq⟩ := (numb_leads hw).2 i hi
    exact ⟨q, hq⟩
  · intro j
    rw [at0_app]
    split
    · exact hrb j
    · have : at0 (List.replicate xs.length (0 : Int)) (j - r.length) = 0 := at0_zr
      rw [this]
      exact Nat.zero_le _
  · have : (stairs (numb m) w).length * (bigB + 1) ≤ 9 * (bigB + 1) := Nat.mul_le_mul_right _ z2
    omega
  rw [hlen] at e6
  have el : red (stairs (numb m) w) (r ++ List.replicate m.length 0) = lft m w r := rfl
  rw [el] at e6
  walk_at "rd"
  refine w_sl e6 fun l7 n7 => ?_
  rw [cut_to, ← List.map_take, lft_take hw hrl]
  walk_at "rd"
  refine ⟨.ref l7, red (stairs m w) r, rfl, rep_row_of upd_same, fun H8 s8 => ?_⟩
  have eis : (red (stairs m w) r).all (fun x => x == 0) = true := his
  rw [eis]
  have e8 := s8 _ _ (same_new (o := .lst ((red (stairs m w) r).map V.int)) n7 _ _ e6)
  walk_at "rd"
  refine w_sl e8 fun l9 n9 => ?_
  rw [cut_from, ← List.map_drop]
  walk_at "rd"
  have hsz := (redF_inv (S := stairs (numb m) w) (r := r ++ List.replicate m.length 0) (w := w + m.length) (a := 100) (b := bigB) z3 (by simp [hrl]) z1 (by
    intro j
    rw [at0_app]
    split
    · exact hrb j
    · have : at0 (List.replicate m.length (0 : Int)) (j - r.length) = 0 := at0_zr
      rw [this]
      exact Nat.zero_le _) _ (Nat.le_refl _)).2
  rw [redF_all, el] at hsz
  refine ⟨-1, .ref l9, (lft m w r).drop w, rfl, rep_row_of upd_same, ?_, fun i => ?_, fun p10 H10 s10 n10 e10 => ?_⟩
  · rw [List.length_drop, lft_length hw hrl]
    omega
  · have e11 : at0 ((lft m w r).drop w) i = at0 (lft m w r) (w + i) := by
      unfold at0
      rw [List.getD_eq_getElem?_getD, List.getElem?_drop, List.getD_eq_getElem?_getD]
    rw [e11]
    have : (stairs (numb m) w).length * (bigB + 1) ≤ 9 * (bigB + 1) := Nat.mul_le_mul_right _ z2
    exact CMulG.of (a := 1) (by unfold Bd; decide) (bd_of (hsz (w + i))) (by omega)
  · exact k p10 H10 (((((((s1.trans s2).trans sm2).trans s6).trans (same_new n7)).trans s8).trans (same_new n9)).trans s10) ((((((((s1.trans s2).trans sm2).trans s6).trans (same_new n7)).trans s8).trans (same_new n9))).free n10) e10
end
end G
end
section
set_option Elab.async false
set_option linter.all false
set_option maxRecDepth 100000
namespace G
open PySem L2 PyProof.Rows
local macro_rules | `(tactic| walk_at "rd") => `(tactic| repeat (first
  | (with_reducible refine v_seq ?_)
  | (with_reducible refine v_asg ?_)
  | (with_reducible refine w_cons ?_)
  | (with_reducible refine w_nil ?_)
  | (with_reducible refine w_op ?_)
  | (with_reducible refine w_c ?_)
  | (with_reducible refine w_I0 ?_)
  | (with_reducible refine w_cb ?_)
  | (with_reducible refine w_call ?_)
  | (with_reducible refine v_ret ?_)
  | (with_reducible refine v_next ?_)
  | (with_reducible refine w_ixR (by assumption) (by assumption) ?_)
  | (with_reducible refine w_ix (by assumption) (by assumption) ?_)
  | (with_reducible refine w_test ?_)
  | (with_reducible refine w_tB ?_)
  | (with_reducible refine w_and ?_)
  | (with_reducible refine w_or ?_)
  | (with_reducible refine w_not ?_)
  | (with_reducible refine w_ifE ?_)
  | (with_reducible refine v_ifS ?_)
  | (with_reducible refine w_tt ?_)
  | (with_reducible refine w_ff ?_)
  | (with_reducible refine w_eqI ?_)
  | (with_reducible refine w_neI ?_)
  | (with_reducible refine w_U ?_)
  | (with_reducible refine w_un ?_)
  | (with_reducible refine w_len (by assumption) ?_)
  | (with_reducible refine w_abs ?_)
  | (with_reducible refine w_int ?_)
  | (with_reducible refine w_isN0 ?_)
  | (with_reducible refine w_isN1 (by assumption) ?_)
  | (with_reducible refine w_isN1 ne_in ?_)
  | (with_reducible refine w_isN1 ne_rn ?_)
  | (with_reducible refine w_notN0 ?_)
  | (with_reducible refine w_notN1 ne_in ?_)
  | (with_reducible refine w_notN1 ne_rn ?_)
  | (with_reducible refine v_lst ?_)
  | (with_reducible refine v_tup ?_)
  | (with_reducible refine w_notN1 (by assumption) ?_)
  | (with_reducible refine v_drop ?_)
  | (with_reducible refine w_bm ?_)
  | (with_reducible refine v_for ?_)
  | (with_reducible refine v_rng1 ?_)
  | (with_reducible refine v_rng2 ?_)
  | (with_reducible refine v_list ?_)
  | (with_reducible refine w_sub ?_)
  | (with_reducible refine v_ip ?_)
  | (with_reducible refine v_augS ?_)
  | (with_reducible refine v_retN ?_)
  | (with_reducible refine w_yes ?_)
  | (with_reducible refine tv_0 ?_)
  | (with_reducible refine nv_0 ?_)
  | (with_reducible refine av_0 ?_)
  | (with_reducible refine tv_1 ?_)
  | (with_reducible refine nv_1 ?_)
  | (with_reducible refine av_1 ?_)
  | (with_reducible refine tv_2 ?_)
  | (with_reducible refine nv_2 ?_)
  | (with_reducible refine av_2 ?_)
  | (with_reducible refine tv_3 ?_)
  | (with_reducible refine nv_3 ?_)
  | (with_reducible refine av_3 ?_)
  | (with_reducible refine tv_4 ?_)
  | (with_reducible refine nv_4 ?_)
  | (with_reducible refine av_4 ?_)
  | (with_reducible refine tv_5 ?_)
  | (with_reducible refine nv_5 ?_)
  | (with_reducible refine av_5 ?_)
  | (with_reducible refine tv_6 ?_)
  | (with_reducible refine nv_6 ?_)
  | (with_reducible refine av_6 ?_)
  | (with_reducible refine tv_7 ?_)
  | (with_reducible refine nv_7 ?_)
  | (with_reducible refine av_7 ?_)
  | (with_reducible refine tv_8 ?_)
  | (with_reducible refine nv_8 ?_)
  | (with_reducible refine av_8 ?_)
  | (with_reducible refine tv_9 ?_)
  | (with_reducible refine nv_9 ?_)
  | (with_reducible refine av_9 ?_)
  | (with_reducible refine tv_10 ?_)
  | (with_reducible refine nv_10 ?_)
  | (with_reducible refine av_10 ?_)
  | (with_reducible refine tv_11 ?_)
  | (with_reducible refine nv_11 ?_)
  | (with_reducible refine av_11 ?_)
  | (with_reducible refine tv_12 ?_)
  | (with_reducible refine nv_12 ?_)
  | (with_reducible refine av_12 ?_)
  | (with_reducible refine tv_13 ?_)
  | (with_reducible refine nv_13 ?_)
  | (with_reducible refine av_13 ?_)
  | (with_reducible refine tv_14 ?_)
  | (with_reducible refine nv_14 ?_)
  | (with_reducible refine av_14 ?_)
  | (with_reducible refine tv_15 ?_)
  | (with_reducible refine nv_15 ?_)
  | (with_reducible refine av_15 ?_)
  | (with_reducible refine ⟨_, rfl, ⟨_, SqL.of (by assumption)⟩, ?_⟩)
  | (with_reducible refine ⟨_, rfl, (by omega), (by omega), ?_⟩)
  | (with_reducible refine ⟨w_tyL (by assumption), ?_⟩)
  | (with_reducible refine w_isiII ?_)
  | (with_reducible refine w_isiIB ?_)
  | (with_reducible refine w_isiBB ?_)
  | (with_reducible refine w_isiBI ?_)
  | (with_reducible refine w_isiNL ?_)
  | (with_reducible refine w_isiLL (by assumption) ?_)
  | (with_reducible refine v_sl ?_)
  | (with_reducible refine w_nff ?_)
  | (with_reducible refine w_ntt ?_)
  | (with_reducible refine v_chain ?_)
  | (with_reducible refine v_andV ?_)
  | (with_reducible refine v_orV ?_)
  | (with_reducible refine v_notV ?_)
  | (with_reducible refine v_noP ?_)
  | (with_reducible refine v_part ?_)
  | (with_reducible refine v_fld ?_)
  | (with_reducible refine v_sfld ?_)
  | (with_reducible refine ⟨_, (rfl : V.bl _ = V.bl _), ?_⟩)
  | (with_reducible refine ⟨_, (rfl : V.ref _ = V.ref _), ?_⟩)
  | (with_reducible refine ⟨_, (rfl : [V.int _] = [V.int _]), ?_⟩)
  | (with_reducible refine ⟨_, (rfl : V.int _ = V.int _), ?_⟩)
  | (with_reducible refine ⟨⟨_, SqL.of (by assumption)⟩, ?_⟩)
  | (with_reducible refine ⟨(by (first | omega | (rw [lenV]; omega)) : -(2 ^ 62) ≤ _), (by first | omega | (rw [lenV]; omega)), ?_⟩)
  ))
section
variable {Z : Ctx} {vs : List V} {H : Hp} {Q : VK} {E : XK}
/-! ### a Lattice -/
structure LatCls (Z : Ctx) : Prop where
  cl : Cls Z.K (Z.cls "Lattice")
  nw : NoAttr Z.K (Z.cls "Lattice") "row_width"
  ng : NoAttr Z.K (Z.cls "Lattice") "given_rows"
  ns : NoAttr Z.K (Z.cls "Lattice") "normal_rows"
  nk : NoAttr Z.K (Z.cls "Lattice") "kept_list"
def lf (w : Nat) (vg vs vk : V) : List (Str × V) := [("row_width", .int (w : Int)), ("given_rows", vg), ("normal_rows", vs), ("kept_list", vk)]
theorem s_gw : ¬ (("given_rows" : Str) = "row_width") := by decide +kernel
theorem s_wg : ¬ (("row_width" : Str) = "given_rows") := by decide +kernel
theorem s_ws : ¬ (("row_width" : Str) = "normal_rows") := by decide +kernel
theorem s_gs : ¬ (("given_rows" : Str) = "normal_rows") := by decide +kernel
theorem s_wk : ¬ (("row_width" : Str) = "kept_list") := by decide +kernel
theorem s_gk : ¬ (("given_rows" : Str) = "kept_list") := by decide +kernel
theorem s_sk : ¬ (("normal_rows" : Str) = "kept_list") := by decide +kernel
theorem pf1 {v : V} : putF "row_width" v [] = [(("row_width" : Str), v)] := rfl
theorem pf2 {v g : V} : putF "given_rows" g [(("row_width" : Str), v)] = [(("row_width" : Str), v), (("given_rows" : Str), g)] := by
  show (if ("row_width" : Str) = "given_rows" then _ else (("row_width" : Str), v) :: putF "given_rows" g []) = _
  rw [if_neg s_wg]
  rfl
theorem pf3 {v g s : V} : putF "normal_rows" s [(("row_width" : Str), v), (("given_rows" : Str), g)] = [(("row_width" : Str), v), (("given_rows" : Str), g), (("normal_rows" : Str), s)] := by
  show (if ("row_width" : Str) = "normal_rows" then _ else (("row_width" : Str), v) :: (if ("given_rows" : Str) = "normal_rows" then _ else (("given_rows" : Str), g) :: putF "normal_rows" s [])) = _
  rw [if_neg s_ws, if_neg s_gs]
  rfl
theorem pf4 {v g s k : V} : putF "kept_list" k [(("row_width" : Str), v), (("given_rows" : Str), g), (("normal_rows" : Str), s)] = [(("row_width" : Str), v), (("given_rows" : Str), g), (("normal_rows" : Str), s), (("kept_list" : Str), k)] := by
  show (if ("row_width" : Str) = "kept_list" then _ else (("row_width" : Str), v) :: (if ("given_rows" : Str) = "kept_list" then _ else (("given_rows" : Str), g) :: (if ("normal_rows" : Str) = "kept_list" then _ else (("normal_rows" : Str), s) :: putF "kept_list" k []))) = _
  rw [if_neg s_wk, if_neg s_gk, if_neg s_sk]
  rfl
theorem lk_w {w : Nat} {vg vs vk : V} : (lf w vg vs vk).lookup ("row_width" : Str) = some (.int (w : Int)) := by
  unfold lf
  rw [List.lookup_cons]
  simp
theorem lk_ne {f g : Str} {v : V} {r : List (Str × V)} (h : ¬ g = f) : ((f, v) :: r).lookup g = r.lookup g := by
  rw [List.lookup_cons]
  have : (g == f) = false := by simpa using h
  rw [this]
theorem lk_eq {f : Str} {v : V} {r : List (Str × V)} : ((f, v) :: r).lookup f = some v := by
  rw [List.lookup_cons]
  simp
theorem lk_g {w : Nat} {vg vs vk : V} : (lf w vg vs vk).lookup ("given_rows" : Str) = some vg := by
  unfold lf
  rw [lk_ne (fun z => s_wg z.symm), lk_eq]
theorem lk_s {w : Nat} {vg vs vk : V} : (lf w vg vs vk).lookup ("normal_rows" : Str) = some vs := by
  unfold lf
  rw [lk_ne (fun z => s_ws z.symm), lk_ne (fun z => s_gs z.symm), lk_eq]
/-- a Lattice of so many places, with these given and normal rows -/
def Lat (Z : Ctx) (H : Hp) (v : V) (w : Nat) (g S : Mat) : Prop := ∃ a dx vg vs vk, v = .ref a ∧ H a = some (.ins (Z.cls "Lattice") dx (lf w vg vs vk)) ∧ rep H vg g ∧ rep H vs S
theorem Lat.mono {Z : Ctx} {H H' : Hp} {v : V} {w : Nat} {g S : Mat} (h : Lat Z H v w g S) (s : Same H H') : Lat Z H' v w g S := by
  obtain ⟨a, dx, vg, vs, vk, e, h1, h2, h3⟩ := h
  exact ⟨a, dx, vg, vs, vk, e, s _ _ h1, Rep.mono s h2, Rep.mono s h3⟩
/-- a good one -/
structure LatOk (w : Nat) (g S : Mat) : Prop where
  wid : Wid w g
  w9 : w ≤ 9
  len : g.length ≤ 40
  sz : Le (2 ^ 20) g
  st : S = stairs g w
theorem LatOk.red {w : Nat} {g S : Mat} {r : Row} (h : LatOk w g S) (hr : r.length = w) (hb : RB (2 ^ 100) r) : RedPre S r 100 bigB := by
  obtain ⟨z1, z2, z3⟩ := st_size h.wid h.w9 h.sz
  rw [← h.st] at z1 z2 z3
  have hB := bigB_eq
  have := h.w9
  refine ⟨by rw [hr]; exact z3, by omega, by omega, fun i hi => ?_, z1, hb, ?_⟩
  · obtain ⟨L, q⟩ := stairs_hs h.wid
    rw [← h.st] at q
    obtain ⟨p, _, hp, _⟩ := q.lead hi
    exact ⟨p, hp⟩
  · have : S.length * (bigB + 1) ≤ 9 * (bigB + 1) := Nat.mul_le_mul_right _ z2
    omega
theorem rb100 {r : Row} (h : ∀ x ∈ r, -1000000000000000000000000000000 ≤ x ∧ x ≤ 1000000000000000000000000000000) : RB (2 ^ 100) r := fun j => by
  have e : (2 : Nat) ^ 100 = 1267650600228229401496703205376 := by decide
  by_cases hj : j < r.length
  · have := h _ (List.mem_of_getElem? (at0_get hj))
    omega
  · rw [at0_out (by omega)]
    exact Nat.zero_le _
def sp_Lattice_width (Z : Ctx) : Sp := fun vs H Q _ => ∃ v, ∃ w : Nat, ∃ g S : Mat, vs = [v] ∧ Lat Z H v w g S ∧ Q (.int (w : Int)) H
abbrev r_Lattice_width (Z : Ctx) : TS := (tRet (tFld Z.K (tVar 0) "row_width"))
theorem ln_Lattice_width : sp_Lattice_width Z vs H Q E → vs.length = 1 := by rintro ⟨_, _, _, _, rfl, _⟩; rfl
abbrev nm_Lattice_width : List Str := ["self"]
theorem rd_Lattice_width (LC : LatCls Z) (h : sp_Lattice_width Z vs H Q E) : r_Lattice_width Z (ends Q) (L2.start nm_Lattice_width vs) H := by
  obtain ⟨v, w, g, S, rfl, ⟨a, dx, vg, vs, vk, rfl, h1, h2, h3⟩, k⟩ := h
  show r_Lattice_width Z (ends Q) [some (.ref a)] H
  unfold r_Lattice_width ends
  walk_at "rd"
  exact ⟨a, _, dx, _, _, rfl, h1, LC.cl, LC.nw, lk_w, k⟩
def sp_Lattice_rank (Z : Ctx) : Sp := fun vs H Q _ => ∃ v, ∃ w : Nat, ∃ g S : Mat, vs = [v] ∧ Lat Z H v w g S ∧ Q (.int (S.length : Int)) H
abbrev r_Lattice_rank (Z : Ctx) : TS := (tRet (tCB (rLenG Z.K) (tCons (tFld Z.K (tVar 0) "normal_rows") tNil)))
theorem ln_Lattice_rank : sp_Lattice_rank Z vs H Q E → vs.length = 1 := by rintro ⟨_, _, _, _, rfl, _⟩; rfl
abbrev nm_Lattice_rank : List Str := ["self"]
theorem rd_Lattice_rank (LC : LatCls Z) (h : sp_Lattice_rank Z vs H Q E) : r_Lattice_rank Z (ends Q) (L2.start nm_Lattice_rank vs) H := by
  obtain ⟨v, w, g, S, rfl, ⟨a, dx, vg, vs, vk, rfl, h1, h2, ⟨p, xs, rfl, hp, ha⟩⟩, k⟩ := h
  show r_Lattice_rank Z (ends Q) [some (.ref a)] H
  unfold r_Lattice_rank ends
  walk_at "rd"
  refine ⟨a, _, dx, _, _, rfl, h1, LC.cl, LC.ns, lk_s, ?_⟩
  walk_at "rd"
  rw [ha.len]
  exact k
def spCopy (f : Mat → Mat → Mat) (Z : Ctx) : Sp := fun vs H Q _ => ∃ v, ∃ w : Nat, ∃ g S : Mat, vs = [v] ∧ Lat Z H v w g S ∧ (f g S).length ≤ 1000 ∧ NewL (dom H) H (f g S) Q
def sp_Lattice_given (Z : Ctx) : Sp := spCopy (fun g _ => g) Z
abbrev r_Lattice_given (Z : Ctx) : TS := (tRet (tLc (iList Z.K (tFld Z.K (tVar 0) "given_rows")) (gName 1) tYes (tCB (rLstG Z.K) (tCons (tVar 1) tNil)) [1]))
theorem ln_Lattice_given : sp_Lattice_given Z vs H Q E → vs.length = 1 := by rintro ⟨_, _, _, _, rfl, _⟩; rfl
abbrev nm_Lattice_given : List Str := ["self", "row"]
theorem rd_Lattice_given (LC : LatCls Z) (h : sp_Lattice_given Z vs H Q E) : r_Lattice_given Z (ends Q) (L2.start nm_Lattice_given vs) H := by
  obtain ⟨v, w, g, S, rfl, ⟨a, dx, vg, vs, vk, rfl, h1, ⟨p, xs, rfl, hp, ha⟩, h3⟩, hz, k⟩ := h
  show r_Lattice_given Z (ends Q) [some (.ref a), none] H
  unfold r_Lattice_given ends
  walk_at "rd"
  refine lcCopyT (fun R h => by walk_at "rd"; exact ⟨a, _, dx, _, _, rfl, h1, LC.cl, LC.ng, lk_g, ⟨_, rfl, ⟨_, SqL.of hp⟩, h⟩⟩) (dom H) hp ha (by have : g.length ≤ 1000 := hz; omega) (fun _ h => h) (fun _ => by rfl) (fun _ => by rfl) k
def sp_Lattice_rows (Z : Ctx) : Sp := spCopy (fun _ S => S) Z
abbrev r_Lattice_rows (Z : Ctx) : TS := (tRet (tLc (iList Z.K (tFld Z.K (tVar 0) "normal_rows")) (gName 1) tYes (tCB (rLstG Z.K) (tCons (tVar 1) tNil)) [1]))
theorem ln_Lattice_rows : sp_Lattice_rows Z vs H Q E → vs.length = 1 := by rintro ⟨_, _, _, _, rfl, _⟩; rfl
abbrev nm_Lattice_rows : List Str := ["self", "row"]
theorem rd_Lattice_rows (LC : LatCls Z) (h : sp_Lattice_rows Z vs H Q E) : r_Lattice_rows Z (ends Q) (L2.start nm_Lattice_rows vs) H := by
  obtain ⟨v, w, g, S, rfl, ⟨a, dx, vg, vs, vk, rfl, h1, h2, ⟨p, xs, rfl, hp, ha⟩⟩, hz, k⟩ := h
  show r_Lattice_rows Z (ends Q) [some (.ref a), none] H
  unfold r_Lattice_rows ends
  walk_at "rd"
  refine lcCopyT (fun R h => by walk_at "rd"; exact ⟨a, _, dx, _, _, rfl, h1, LC.cl, LC.ns, lk_s, ⟨_, rfl, ⟨_, SqL.of hp⟩, h⟩⟩) (dom H) hp ha (by have : S.length ≤ 1000 := hz; omega) (fun _ h => h) (fun _ => by rfl) (fun _ => by rfl) k
/-- a good Lattice and a row that may be asked -/
def spAsk (Z : Ctx) (f : Nat → Mat → Mat → Row → Hp → VK → Prop) : Sp := fun vs H Q _ => ∃ v u, ∃ w : Nat, ∃ g S : Mat, ∃ r : Row, vs = [v, u] ∧ Lat Z H v w g S ∧ LatOk w g S ∧ rep H u r ∧ r.length = w ∧
  (∀ x ∈ r, -1000000000000000000000000000000 ≤ x ∧ x ≤ 1000000000000000000000000000000) ∧ f w g S r H Q
def aHeld : Nat → Mat → Mat → Row → Hp → VK → Prop := fun _ _ S r H Q => ∀ H', Same H H' → Q (.bl (isz (red S r))) H'
def aParts : Nat → Mat → Mat → Row → Hp → VK → Prop := fun w g S r H Q => (isz (red S r) = true → NewR H (parts g w r) Q) ∧ (isz (red S r) = false → ∀ H', Same H H' → Q .non H')
def sp_is_held (Z : Ctx) : Sp := fun vs H Q _ => ∃ v u, ∃ w : Nat, ∃ g S : Mat, ∃ r : Row, ∃ a b : Nat, vs = [v, u] ∧ Lat Z H v w g S ∧ rep H u r ∧ RedPre S r a b ∧ ∀ H', Same H H' → Q (.bl (isz (red S r))) H'
abbrev r_is_held (Z : Ctx) : TS := (tRet (tCall (sp_is_zero Z) [] E0 (tCons (tCall (sp_reduced_row Z) [] E0 (tCons (tFld Z.K (tVar 0) "normal_rows") (tCons (tVar 1) tNil))) tNil)))
theorem ln_is_held : sp_is_held Z vs H Q E → vs.length = 2 := by rintro ⟨_, _, _, _, _, _, _, _, rfl, _⟩; rfl
abbrev nm_is_held : List Str := ["lattice", "row"]
theorem rd_is_held (LC : LatCls Z) (h : sp_is_held Z vs H Q E) : r_is_held Z (ends Q) (L2.start nm_is_held vs) H := by
  obtain ⟨v, u, w, g, S, r, n1, n2, rfl, ⟨a, dx, vg, vs, vk, rfl, h1, h2, h3⟩, hr, pre, k⟩ := h
  show r_is_held Z (ends Q) [some (.ref a), some u] H
  unfold r_is_held ends
  walk_at "rd"
  refine ⟨a, _, dx, _, _, rfl, h1, LC.cl, LC.ns, lk_s, ?_⟩
  walk_at "rd"
  refine ⟨vs, u, S, r, n1, n2, rfl, h3, hr, pre, fun p H1 s1 n1 e1 => ?_⟩
  walk_at "rd"
  exact ⟨.ref p, red S r, rfl, rep_row_of e1, fun H2 s2 => k H2 (s1.trans s2)⟩
def sp_amounts_of (Z : Ctx) : Sp := spAsk Z aParts
abbrev r_amounts_of (Z : Ctx) : TS := (tSeq (tIfS (tNot (tB (tCall (sp_is_held Z) [] E0 (tCons (tVar 0) (tCons (tVar 1) tNil))))) (tRet (tC .non)) tNext) (tRet (tCall (sp_parts_over Z) [] E0 (tCons (tFld Z.K (tVar 0) "row_width") (tCons (tFld Z.K (tVar 0) "given_rows") (tCons (tVar 1) tNil))))))
theorem ln_amounts_of : sp_amounts_of Z vs H Q E → vs.length = 2 := by rintro ⟨_, _, _, _, _, _, rfl, _⟩; rfl
abbrev nm_amounts_of : List Str := ["lattice", "row"]
theorem rd_amounts_of (LC : LatCls Z) (h : sp_amounts_of Z vs H Q E) : r_amounts_of Z (ends Q) (L2.start nm_amounts_of vs) H := by
  obtain ⟨v, u, w, g, S, r, rfl, hL, ok, hr, hrl, hb, k1, k2⟩ := h
  have hL' := hL
  obtain ⟨a, dx, vg, vs, vk, rfl, h1, h2, h3⟩ := hL
  show r_amounts_of Z (ends Q) [some (.ref a), some u] H
  unfold r_amounts_of ends
  walk_at "rd"
  refine ⟨.ref a, u, w, g, S, r, 100, bigB, rfl, hL', hr, ok.red hrl (rb100 hb), fun H1 s1 => ?_⟩
  cases e : isz (red S r) with
  | false =>
    walk_at "rd"
    exact k2 e H1 s1
  | true =>
    walk_at "rd"
    refine ⟨a, _, dx, _, _, rfl, s1 _ _ h1, LC.cl, LC.nw, lk_w, ?_⟩
    walk_at "rd"
    refine ⟨a, _, dx, _, _, rfl, s1 _ _ h1, LC.cl, LC.ng, lk_g, ?_⟩
    walk_at "rd"
    refine ⟨vg, u, w, g, r, rfl, Rep.mono s1 h2, Rep.mono s1 hr, ok.wid, ok.w9, ok.len, ok.sz, hrl, rb100 hb, by rw [← ok.st]; exact e, fun p H2 s2 n2 e2 => k1 e p H2 (s1.trans s2) (s1.free n2) e2⟩
theorem one_row {H : Hp} {l : Addr} {u : V} {r : Row} (hr : rep H u r) (n : H l = none) : rep (upd H l (.lst [u])) (.ref l) ([r] : Mat) := ⟨l, [u], rfl, upd_same, ⟨Rep.mono (same_new n) hr, trivial⟩⟩
def sp_Lattice_holds (Z : Ctx) : Sp := spAsk Z aHeld
abbrev r_Lattice_holds (Z : Ctx) : TS := (tSeq (tDrop (tCall (sp_check_asked Z) [] E0 (tCons (tLst (tCons (tVar 1) tNil)) (tCons (tFld Z.K (tVar 0) "row_width") tNil)))) (tRet (tCall (sp_is_held Z) [] E0 (tCons (tVar 0) (tCons (tVar 1) tNil)))))
theorem ln_Lattice_holds : sp_Lattice_holds Z vs H Q E → vs.length = 2 := by rintro ⟨_, _, _, _, _, _, rfl, _⟩; rfl
abbrev nm_Lattice_holds : List Str := ["self", "row"]
theorem rd_Lattice_holds (LC : LatCls Z) (h : sp_Lattice_holds Z vs H Q E) : r_Lattice_holds Z (ends Q) (L2.start nm_Lattice_holds vs) H := by
  obtain ⟨v, u, w, g, S, r, rfl, hL, ok, hr, hrl, hb, k⟩ := h
  have hL' := hL
  obtain ⟨a, dx, vg, vs, vk, rfl, h1, h2, h3⟩ := hL
  have := ok.w9
  show r_Lattice_holds Z (ends Q) [some (.ref a), some u] H
  unfold r_Lattice_holds ends
  walk_at "rd"
  refine ⟨small _ (by simp), fun l hl => ?_⟩
  walk_at "rd"
  refine ⟨a, _, dx, _, _, rfl, same_new hl _ _ h1, LC.cl, LC.nw, lk_w, ?_⟩
  walk_at "rd"
  refine ⟨.ref l, w, [r], rfl, one_row hr hl, by intro x hx; rw [List.mem_singleton.mp hx]; exact hrl, by omega, by simp, by intro x hx; rw [List.mem_singleton.mp hx]; exact hb, fun H1 s1 => ?_⟩
  walk_at "rd"
  have sm := (same_new hl).trans s1
  exact ⟨.ref a, u, w, g, S, r, 100, bigB, rfl, hL'.mono sm, Rep.mono sm hr, ok.red hrl (rb100 hb), fun H2 s2 => k H2 (sm.trans s2)⟩
def sp_Lattice_parts (Z : Ctx) : Sp := spAsk Z aParts
abbrev r_Lattice_parts (Z : Ctx) : TS := (tSeq (tDrop (tCall (sp_check_asked Z) [] E0 (tCons (tLst (tCons (tVar 1) tNil)) (tCons (tFld Z.K (tVar 0) "row_width") tNil)))) (tRet (tCall (sp_amounts_of Z) [] E0 (tCons (tVar 0) (tCons (tVar 1) tNil)))))
theorem ln_Lattice_parts : sp_Lattice_parts Z vs H Q E → vs.length = 2 := by rintro ⟨_, _, _, _, _, _, rfl, _⟩; rfl
abbrev nm_Lattice_parts : List Str := ["self", "row"]
theorem rd_Lattice_parts (LC : LatCls Z) (h : sp_Lattice_parts Z vs H Q E) : r_Lattice_parts Z (ends Q) (L2.start nm_Lattice_parts vs) H := by
  obtain ⟨v, u, w, g, S, r, rfl, hL, ok, hr, hrl, hb, k1, k2⟩ := h
  have hL' := hL
  obtain ⟨a, dx, vg, vs, vk, rfl, h1, h2, h3⟩ := hL
  have := ok.w9
  show r_Lattice_parts Z (ends Q) [some (.ref a), some u] H
  unfold r_Lattice_parts ends
  walk_at "rd"
  refine ⟨small _ (by simp), fun l hl => ?_⟩
  walk_at "rd"
  refine ⟨a, _, dx, _, _, rfl, same_new hl _ _ h1, LC.cl, LC.nw, lk_w, ?_⟩
  walk_at "rd"
  refine ⟨.ref l, w, [r], rfl, one_row hr hl, by intro x hx; rw [List.mem_singleton.mp hx]; exact hrl, by omega, by simp, by intro x hx; rw [List.mem_singleton.mp hx]; exact hb, fun H1 s1 => ?_⟩
  walk_at "rd"
  have sm := (same_new hl).trans s1
  exact ⟨.ref a, u, w, g, S, r, rfl, hL'.mono sm, ok, Rep.mono sm hr, hrl, hb, fun e p H2 s2 n2 e2 => k1 e p H2 (sm.trans s2) (sm.free n2) e2, fun e H2 s2 => k2 e H2 (sm.trans s2)⟩
def sp_check_width (Z : Ctx) : Sp := fun vs H Q _ => ∃ v u, ∃ w : Nat, ∃ g S g' S' : Mat, vs = [v, u] ∧ Lat Z H v w g S ∧ Lat Z H u w g' S' ∧ Q .non H
abbrev r_check_width (Z : Ctx) : TS := (tIfS (tTest (tOp rNe (tFld Z.K (tVar 0) "row_width") (tFld Z.K (tVar 1) "row_width"))) tNever tNext)
theorem ln_check_width : sp_check_width Z vs H Q E → vs.length = 2 := by rintro ⟨_, _, _, _, _, _, _, rfl, _⟩; rfl
abbrev nm_check_width : List Str := ["lattice", "other"]
theorem rd_check_width (LC : LatCls Z) (h : sp_check_width Z vs H Q E) : r_check_width Z (ends Q) (L2.start nm_check_width vs) H := by
  obtain ⟨v, u, w, g, S, g', S', rfl, ⟨a, dx, vg, vs, vk, rfl, h1, _, _⟩, ⟨a', dx', vg', vs', vk', rfl, h1', _, _⟩, k⟩ := h
  show r_check_width Z (ends Q) [some (.ref a), some (.ref a')] H
  unfold r_check_width ends
  walk_at "rd"
  refine ⟨a, _, dx, _, _, rfl, h1, LC.cl, LC.nw, lk_w, ?_⟩
  walk_at "rd"
  refine ⟨a', _, dx', _, _, rfl, h1', LC.cl, LC.nw, lk_w, ?_⟩
  walk_at "rd"
  refine w_ite (fun h => absurd rfl h) (fun _ => ?_)
  walk_at "rd"
  exact k
def sp_Lattice_same (Z : Ctx) : Sp := fun vs H Q _ => ∃ v u, ∃ w : Nat, ∃ g S g' S' : Mat, vs = [v, u] ∧ Lat Z H v w g S ∧ Lat Z H u w g' S' ∧ Q (.bl (decide (S = S'))) H
abbrev r_Lattice_same (Z : Ctx) : TS := (tSeq (tDrop (tCall (sp_check_width Z) [] E0 (tCons (tVar 0) (tCons (tVar 1) tNil)))) (tRet (tOp (rEqD Z.K) (tFld Z.K (tVar 0) "normal_rows") (tFld Z.K (tVar 1) "normal_rows"))))
theorem ln_Lattice_same : sp_Lattice_same Z vs H Q E → vs.length = 2 := by rintro ⟨_, _, _, _, _, _, _, rfl, _⟩; rfl
abbrev nm_Lattice_same : List Str := ["self", "other"]
theorem rd_Lattice_same (LC : LatCls Z) (h : sp_Lattice_same Z vs H Q E) : r_Lattice_same Z (ends Q) (L2.start nm_Lattice_same vs) H := by
  obtain ⟨v, u, w, g, S, g', S', rfl, hL, hL', k⟩ := h
  have q1 := hL
  have q2 := hL'
  obtain ⟨a, dx, vg, vs, vk, rfl, h1, _, h3⟩ := hL
  obtain ⟨a', dx', vg', vs', vk', rfl, h1', _, h3'⟩ := hL'
  show r_Lattice_same Z (ends Q) [some (.ref a), some (.ref a')] H
  unfold r_Lattice_same ends
  walk_at "rd"
  refine ⟨.ref a, .ref a', w, g, S, g', S', rfl, q1, q2, ?_⟩
  walk_at "rd"
  refine ⟨a, _, dx, _, _, rfl, h1, LC.cl, LC.ns, lk_s, ?_⟩
  walk_at "rd"
  refine ⟨a', _, dx', _, _, rfl, h1', LC.cl, LC.ns, lk_s, ?_⟩
  exact w_eqD h3 h3' k
/-- a matrix stands apart from an instance -/
theorem apart {H : Hp} {v : V} {m : Mat} {x C dx : Addr} {fs : List (Str × V)} (h : rep H v m) (hx : H x = some (.ins C dx fs)) : rep (off H fun a => a = x) v m := by
  obtain ⟨l, xs, rfl, hl, ha⟩ := h
  have ne : ∀ {a : Addr} {ys : List V}, H a = some (.lst ys) → ¬ a = x := fun e z => by rw [z, hx] at e; cases e
  refine ⟨l, xs, rfl, off_in (ne hl) hl, ha.imp fun y r _ _ q => ?_⟩
  obtain ⟨p, rfl, hp⟩ := rep_row.mp q
  exact rep_row_of (off_in (ne hp) hp)
def sp_Lattice___init__ (Z : Ctx) : Sp := fun vs H Q _ => ∃ (x dx : Addr) (v : V) (w : Nat) (m : Mat), vs = [.ref x, .int (w : Int), v] ∧ H x = some (.ins (Z.cls "Lattice") dx []) ∧ rep H v m ∧ Wid w m ∧ w ≤ 9 ∧ m.length ≤ 40 ∧ (∀ r ∈ m, ∀ y ∈ r, -1000000 ≤ y ∧ y ≤ 1000000) ∧
  ∀ H' vg vS, Chg x H H' → H' x = some (.ins (Z.cls "Lattice") dx (lf w vg vS .non)) → rep (off H' (dom H)) vg m → rep (off H' (dom H)) vS (stairs m w) → Q .non H'
abbrev r_Lattice___init__ (Z : Ctx) : TS := (tSeq (tDrop (tCall (sp_check_most Z) [] E0 (tCons (tC (.str "books")) (tCons (tVar 1) (tCons (tC (.int 9)) tNil))))) (tSeq (tDrop (tCall (sp_check_most Z) [] E0 (tCons (tC (.str "rows")) (tCons (tCB (rLenG Z.K) (tCons (tVar 2) tNil)) (tCons (tC (.int 40)) tNil))))) (tSeq (tFor (iList Z.K (tVar 2)) (gName 3) (tDrop (tCall (sp_check_numbers Z) [] E0 (tCons (tVar 3) (tCons (tC (.int 1000000)) tNil))))) (tSeq (tDrop (tCall (sp_check_rows Z) [] E0 (tCons (tVar 2) (tCons (tVar 1) tNil)))) (tSeq (sFld Z.K (tVar 0) (tVar 1) "row_width") (tSeq (sFld Z.K (tVar 0) (tLc (iList Z.K (tVar 2)) (gName 3) tYes (tCB (rLstG Z.K) (tCons (tVar 3) tNil)) [3]) "given_rows") (tSeq (sFld Z.K (tVar 0) (tCall (sp_stairs_of Z) [] E0 (tCons (tVar 2) (tCons (tVar 1) tNil))) "normal_rows") (sFld Z.K (tVar 0) (tC .non) "kept_list"))))))))
theorem ln_Lattice___init__ : sp_Lattice___init__ Z vs H Q E → vs.length = 3 := by rintro ⟨_, _, _, _, _, rfl, _⟩; rfl
abbrev nm_Lattice___init__ : List Str := ["self", "width", "rows", "row"]
theorem le20 {m : Mat} (h : ∀ r ∈ m, ∀ y ∈ r, -1000000 ≤ y ∧ y ≤ 1000000) : Le (2 ^ 20) m := le_iff.mpr fun r hr j => by
  have e : (2 : Nat) ^ 20 = 1048576 := by decide
  by_cases hj : j < r.length
  · have := h r hr _ (List.mem_of_getElem? (at0_get hj))
    omega
  · rw [at0_out (by omega)]
    exact Nat.zero_le _
theorem rd_Lattice___init__ (LC : LatCls Z) (h : sp_Lattice___init__ Z vs H Q E) : r_Lattice___init__ Z (ends Q) (L2.start nm_Lattice___init__ vs) H := by
  obtain ⟨x, dx, v, w, m, rfl, hx, hm, hw, h9, hz, hb, k⟩ := h
  have hmx := apart hm hx
  obtain ⟨l, xs, rfl, hl, ha⟩ := hm
  have hlx : l ≠ x := fun z => by rw [z, hx] at hl; cases hl
  have hlen := ha.len
  show r_Lattice___init__ Z (ends Q) [some (.ref x), some (.int w), some (.ref l), none] H
  unfold r_Lattice___init__ ends
  walk_at "rd"
  refine ⟨_, w, 9, rfl, by omega, ?_⟩
  walk_at "rd"
  refine ⟨_, xs.length, 40, rfl, by omega, ?_⟩
  walk_at "rd"
  refine forL (fun i σ H' => ∃ a, σ = [some (.ref x), some (.int w), some (.ref l), a] ∧ H' = H) ⟨_, rfl, rfl⟩ (fun i σ H' _ ⟨a, e, h⟩ => h ▸ SqL.of hl) ?_ ?_
  · rintro i y σ H' hi ⟨a, rfl, rfl⟩
    have hi2 := (List.getElem?_eq_some_iff.mp hi).1
    obtain ⟨q1, h1, h2⟩ := mat_at ha (i := i) (by omega)
    rw [h1] at hi
    cases hi
    walk_at "rd"
    refine ⟨.ref q1, _, m.getD i [], rfl, rep_row_of h2, hb _ (getD_mem (by omega)), ?_⟩
    exact ⟨_, rfl, rfl⟩
  · rintro σ H' ⟨a, rfl, rfl⟩
    walk_at "rd"
    refine ⟨.ref l, w, m, rfl, ⟨l, xs, rfl, hl, ha⟩, hw, by omega, by omega, fun H1 s1 => ?_⟩
    walk_at "rd"
    have hx1 := s1 _ _ hx
    have dx0 : dom H' x := dom_of hx
    refine ⟨x, _, dx, _, rfl, hx1, LC.cl, LC.nw, by decide, ?_⟩
    rw [pf1]
    have c2 : Chg x H' (upd H1 x (.ins (Z.cls "Lattice") dx [("row_width", .int (w : Int))])) := (Chg.of s1).trans chg_upd
    have hm2 := Rep.mono ((c2.off (M := fun a => a = x) rfl).trans off_same) hmx
    have hl2 := c2 _ _ hlx hl
    have hx2 : (upd H1 x (.ins (Z.cls "Lattice") dx [("row_width", .int (w : Int))])) x = some (.ins (Z.cls "Lattice") dx [("row_width", .int (w : Int))]) := upd_same
    generalize upd H1 x (.ins (Z.cls "Lattice") dx [("row_width", .int (w : Int))]) = H2 at c2 hm2 hl2 hx2
    obtain ⟨_, xs2, e9, hl2', ha2⟩ := hm2
    cases e9
    have ex : xs2 = xs := by rw [hl2] at hl2'; cases hl2'; rfl
    subst ex
    have d2 : ∀ a, dom H' a → dom H2 a := fun a h => c2.dom (dom_of hx2) h
    walk_at "rd"
    refine lcCopyT (fun R h => by walk_at "rd"; exact h) (dom H') hl2 ha2 (by omega) d2 (fun _ => by rfl) (fun _ => by rfl) ?_
    intro p3 xs3 H3 s3 n3 e3 a3
    walk_at "rd"
    refine ⟨x, _, dx, _, rfl, s3 _ _ hx2, LC.cl, LC.ng, by simp, ?_⟩
    rw [pf2]
    have np3 : ¬ dom H' p3 := fun z => d2 _ z n3
    have r3 : rep (off H3 (dom H')) (.ref p3) m := ⟨p3, xs3, rfl, off_in np3 e3, all2_mono off_sub a3⟩
    have c4 : Chg x H' (upd H3 x (.ins (Z.cls "Lattice") dx [("row_width", .int (w : Int)), ("given_rows", .ref p3)])) := c2.trans ((Chg.of s3).trans chg_upd)
    have r4 : rep (off (upd H3 x (.ins (Z.cls "Lattice") dx [("row_width", .int (w : Int)), ("given_rows", .ref p3)])) (dom H')) (.ref p3) m := by rw [off_upd dx0]; exact r3
    have hx4 : (upd H3 x (.ins (Z.cls "Lattice") dx [("row_width", .int (w : Int)), ("given_rows", .ref p3)])) x = some (.ins (Z.cls "Lattice") dx [("row_width", .int (w : Int)), ("given_rows", .ref p3)]) := upd_same
    generalize upd H3 x (.ins (Z.cls "Lattice") dx [("row_width", .int (w : Int)), ("given_rows", .ref p3)]) = H4 at c4 r4 hx4
    have hm4 := Rep.mono ((c4.off (M := fun a => a = x) rfl).trans off_same) hmx
    have d4 : ∀ a, dom H' a → dom H4 a := fun a h => c4.dom (dom_of hx4) h
    walk_at "rd"
    refine ⟨.ref l, w, w, 20, m, rfl, hm4, ⟨hw, Nat.le_refl _, h9, by omega, by omega, .inl ⟨le20 hb, lb20 (by decide) h9⟩⟩, fun p5 xs5 H5 s5 n5 e5 a5 => ?_⟩
    walk_at "rd"
    refine ⟨x, _, dx, _, rfl, s5 _ _ hx4, LC.cl, LC.ns, by simp, ?_⟩
    rw [pf3]
    walk_at "rd"
    refine ⟨x, _, dx, _, rfl, upd_same, LC.cl, LC.nk, by simp, ?_⟩
    rw [pf4, upd_upd]
    have np5 : ¬ dom H' p5 := fun z => d4 _ z n5
    refine k _ (.ref p3) (.ref p5) (c4.trans ((Chg.of s5).trans chg_upd)) upd_same ?_ ?_
    · rw [off_upd dx0]
      exact Rep.mono (off_mono s5) r4
    · rw [off_upd dx0]
      exact ⟨p5, xs5, rfl, off_in np5 e5, all2_mono (off_less fun a h => .inl (d4 a h)) a5⟩
end
end G
end
section
set_option Elab.async false
set_option linter.all false
set_option maxRecDepth 100000
namespace G
open PySem L2 PyProof.Rows
local macro_rules | `(tactic| walk_at "rd") => `(tactic| repeat (first
  | (with_reducible refine v_seq ?_)
  | (with_reducible refine v_asg ?_)
  | (with_reducible refine w_cons ?_)
  | (with_reducible refine w_nil ?_)
  | (with_reducible refine w_op ?_)
  | (with_reducible refine w_c ?_)
  | (with_reducible refine w_I0 ?_)
  | (with_reducible refine w_cb ?_)
  | (with_reducible refine w_call ?_)
  | (with_reducible refine v_ret ?_)
  | (with_reducible refine v_next ?_)
  | (with_reducible refine w_ixR (by assumption) (by assumption) ?_)
  | (with_reducible refine w_ix (by assumption) (by assumption) ?_)
  | (with_reducible refine w_test ?_)
  | (with_reducible refine w_tB ?_)
  | (with_reducible refine w_and ?_)
  | (with_reducible refine w_or ?_)
  | (with_reducible refine w_not ?_)
  | (with_reducible refine w_ifE ?_)
  | (with_reducible refine v_ifS ?_)
  | (with_reducible refine w_tt ?_)
  | (with_reducible refine w_ff ?_)
  | (with_reducible refine w_eqI ?_)
  | (with_reducible refine w_neI ?_)
  | (with_reducible refine w_U ?_)
  | (with_reducible refine w_un ?_)
  | (with_reducible refine w_len (by assumption) ?_)
  | (with_reducible refine w_abs ?_)
  | (with_reducible refine w_int ?_)
  | (with_reducible refine w_isN0 ?_)
  | (with_reducible refine w_isN1 (by assumption) ?_)
  | (with_reducible refine w_isN1 ne_in ?_)
  | (with_reducible refine w_isN1 ne_rn ?_)
  | (with_reducible refine w_notN0 ?_)
  | (with_reducible refine w_notN1 ne_in ?_)
  | (with_reducible refine w_notN1 ne_rn ?_)
  | (with_reducible refine v_lst ?_)
  | (with_reducible refine v_tup ?_)
  | (with_reducible refine w_notN1 (by assumption) ?_)
  | (with_reducible refine v_drop ?_)
  | (with_reducible refine w_bm ?_)
  | (with_reducible refine v_for ?_)
  | (with_reducible refine v_rng1 ?_)
  | (with_reducible refine v_rng2 ?_)
  | (with_reducible refine v_list ?_)
  | (with_reducible refine w_sub ?_)
  | (with_reducible refine v_ip ?_)
  | (with_reducible refine v_augS ?_)
  | (with_reducible refine v_retN ?_)
  | (with_reducible refine w_yes ?_)
  | (with_reducible refine tv_0 ?_)
  | (with_reducible refine nv_0 ?_)
  | (with_reducible refine av_0 ?_)
  | (with_reducible refine tv_1 ?_)
  | (with_reducible refine nv_1 ?_)
  | (with_reducible refine av_1 ?_)
  | (with_reducible refine tv_2 ?_)
  | (with_reducible refine nv_2 ?_)
  | (with_reducible refine av_2 ?_)
  | (with_reducible refine tv_3 ?_)
  | (with_reducible refine nv_3 ?_)
  | (with_reducible refine av_3 ?_)
  | (with_reducible refine tv_4 ?_)
  | (with_reducible refine nv_4 ?_)
  | (with_reducible refine av_4 ?_)
  | (with_reducible refine tv_5 ?_)
  | (with_reducible refine nv_5 ?_)
  | (with_reducible refine av_5 ?_)
  | (with_reducible refine tv_6 ?_)
  | (with_reducible refine nv_6 ?_)
  | (with_reducible refine av_6 ?_)
  | (with_reducible refine tv_7 ?_)
  | (with_reducible refine nv_7 ?_)
  | (with_reducible refine av_7 ?_)
  | (with_reducible refine tv_8 ?_)
  | (with_reducible refine nv_8 ?_)
  | (with_reducible refine av_8 ?_)
  | (with_reducible refine tv_9 ?_)
  | (with_reducible refine nv_9 ?_)
  | (with_reducible refine av_9 ?_)
  | (with_reducible refine tv_10 ?_)
  | (with_reducible refine nv_10 ?_)
  | (with_reducible refine av_10 ?_)
  | (with_reducible refine tv_11 ?_)
  | (with_reducible refine nv_11 ?_)
  | (with_reducible refine av_11 ?_)
  | (with_reducible refine tv_12 ?_)
  | (with_reducible refine nv_12 ?_)
  | (with_reducible refine av_12 ?_)
  | (with_reducible refine tv_13 ?_)
  | (with_reducible refine nv_13 ?_)
  | (with_reducible refine av_13 ?_)
  | (with_reducible refine tv_14 ?_)
  | (with_reducible refine nv_14 ?_)
  | (with_reducible refine av_14 ?_)
  | (with_reducible refine tv_15 ?_)
  | (with_reducible refine nv_15 ?_)
  | (with_reducible refine av_15 ?_)
  | (with_reducible refine ⟨_, rfl, ⟨_, SqL.of (by assumption)⟩, ?_⟩)
  | (with_reducible refine ⟨_, rfl, (by omega), (by omega), ?_⟩)
  | (with_reducible refine ⟨w_tyL (by assumption), ?_⟩)
  | (with_reducible refine w_isiII ?_)
  | (with_reducible refine w_isiIB ?_)
  | (with_reducible refine w_isiBB ?_)
  | (with_reducible refine w_isiBI ?_)
  | (with_reducible refine w_isiNL ?_)
  | (with_reducible refine w_isiLL (by assumption) ?_)
  | (with_reducible refine v_sl ?_)
  | (with_reducible refine w_nff ?_)
  | (with_reducible refine w_ntt ?_)
  | (with_reducible refine v_chain ?_)
  | (with_reducible refine v_andV ?_)
  | (with_reducible refine v_orV ?_)
  | (with_reducible refine v_notV ?_)
  | (with_reducible refine v_noP ?_)
  | (with_reducible refine v_part ?_)
  | (with_reducible refine v_fld ?_)
  | (with_reducible refine v_sfld ?_)
  | (with_reducible refine ⟨_, (rfl : V.bl _ = V.bl _), ?_⟩)
  | (with_reducible refine ⟨_, (rfl : V.ref _ = V.ref _), ?_⟩)
  | (with_reducible refine ⟨_, (rfl : [V.int _] = [V.int _]), ?_⟩)
  | (with_reducible refine ⟨_, (rfl : V.int _ = V.int _), ?_⟩)
  | (with_reducible refine ⟨⟨_, SqL.of (by assumption)⟩, ?_⟩)
  | (with_reducible refine ⟨(by (first | omega | (rw [lenV]; omega)) : -(2 ^ 62) ≤ _), (by first | omega | (rw [lenV]; omega)), ?_⟩)
  ))
section
variable {Z : Ctx} {vs : List V} {H : Hp} {Q : VK} {E : XK}
def sp_law_less (Z : Ctx) : Sp := sp_lessened_row Z
abbrev r_law_less (Z : Ctx) : TS := (tRet (tLc (iRng1 (tCons (tCB (rLenG Z.K) (tCons (tVar 0) tNil)) tNil)) (gName 3) tYes (tOp rSubI (tOp (rIxG Z.K) (tVar 0) (tVar 3)) (tOp rMulI (tVar 1) (tOp (rIxG Z.K) (tVar 2) (tVar 3)))) [3]))
theorem ln_law_less : sp_law_less Z vs H Q E → vs.length = 3 := by rintro ⟨_, _, _, _, _, rfl, _⟩; rfl
abbrev nm_law_less : List Str := ["row", "number", "other", "place"]
theorem rd_law_less (h : sp_law_less Z vs H Q E) : r_law_less Z (ends Q) (L2.start nm_law_less vs) H := by
  obtain ⟨v, n, u, r, o, rfl, hr, ho, hl, hz, hc, k⟩ := h
  obtain ⟨p, rfl, hp⟩ := rep_row.mp hr
  obtain ⟨q, rfl, hq⟩ := rep_row.mp ho
  show r_law_less Z (ends Q) [some (.ref p), some (.int n), some (.ref q), none] H
  unfold r_law_less ends
  walk_at "rd"
  refine lcRrT (n := (r.map V.int).length) (fun R h => by walk_at "rd"; exact h) (fun i => at0 r i - n * at0 o i) (by rw [lenV]; omega) (fun _ => rfl) (fun i H1 hi s R k => ?_) ?_
  · rw [lenV] at hi
    have h1 := s _ _ hp
    have h2 := s _ _ hq
    have e1 := at0_get (r := r) (i := i) hi
    have e2 := at0_get (r := o) (i := i) (by omega)
    show (tOp _ _ _) [some (.ref p), some (.int n), some (.ref q), some (.int (i : Int))] H1 R
    walk_at "rd"
    refine w_I (hc i) ?_
    walk_at "rd"
    exact k _ (Same.refl _)
  · rw [lenV]
    exact k
def sp_law_zero (Z : Ctx) : Sp := fun vs H Q _ => ∃ (v : V) (r : Row), vs = [v] ∧ rep H v r ∧ r.length ≤ 1000 ∧ ∀ H', Same H H' → Q (.bl (r.all (· == 0))) H'
abbrev r_law_zero (Z : Ctx) : TS := (tRet (tOp rEq (tCB (rLenG Z.K) (tCons (tLc (iList Z.K (tVar 0)) (gName 1) (tTest (tOp rNe (tVar 1) (tC (.int 0)))) (tVar 1) [1]) tNil)) (tC (.int 0))))
theorem ln_law_zero : sp_law_zero Z vs H Q E → vs.length = 1 := by rintro ⟨_, _, rfl, _⟩; rfl
abbrev nm_law_zero : List Str := ["row", "one"]
theorem rd_law_zero (h : sp_law_zero Z vs H Q E) : r_law_zero Z (ends Q) (L2.start nm_law_zero vs) H := by
  obtain ⟨v, r, rfl, hr, hl0, k⟩ := h
  obtain ⟨p, rfl, hp⟩ := rep_row.mp hr
  show r_law_zero Z (ends Q) [some (.ref p), none] H
  unfold r_law_zero ends
  walk_at "rd"
  refine lcLF (β := Int) (xs := r.map V.int) (fun R h => by walk_at "rd"; exact h) (dom _) (fun i => decide (at0 r i ≠ 0)) (fun i => at0 r i) (SqL.of hp) (by rw [lenV]; omega) (fun _ h => h) (fun _ => rfl) (fun i x H1 hi s R k => ?_) (fun i x H1 M1 hi hf s _ _ R k => ?_) ?_
  · obtain ⟨z, hz, rfl⟩ := row_at hi
    obtain rfl := at0_some hz
    show tTest _ [some (.ref p), some (.int (at0 r i))] H1 R
    walk_at "rd"
    exact k _ (.refl _)
  · obtain ⟨z, hz, rfl⟩ := row_at hi
    obtain rfl := at0_some hz
    show tVar 1 [some (.ref p), some (.int (at0 r i))] H1 R
    walk_at "rd"
    exact k _ _ (.refl _) rfl
  · intro l xs H1 s1 n1 e1 a1
    have hl := a1.len
    rw [List.length_map, lenV] at hl
    walk_at "rd"
    have e : decide ((xs.length : Int) = 0) = r.all (· == 0) := by
      by_cases q : r.all (· == 0) = true
      · rw [q]
        have : (List.range r.length).filter (fun i => decide (at0 r i ≠ 0)) = [] := List.filter_eq_nil_iff.mpr fun i _ => by
          have := isz_iff.mp q i
          simp [this]
        rw [this] at hl
        simp at hl
        simp [hl]
      · rw [Bool.not_eq_true] at q
        rw [q]
        refine decide_eq_false fun z => ?_
        have z2 : ((List.range r.length).filter (fun i => decide (at0 r i ≠ 0))) = [] := List.eq_nil_of_length_eq_zero (by omega)
        rw [List.filter_eq_nil_iff] at z2
        have : isz r = true := isz_iff.mpr fun i => by
          by_cases hi : i < r.length
          · have := z2 i (List.mem_range.mpr hi)
            simpa using this
          · exact at0_out (by omega)
        unfold isz at this
        rw [q] at this
        cases this
    rw [e]
    exact k _ s1
theorem ok1_pl {b p : Nat} {m : Mat} (h : Ok1 b m p) : PL (2 ^ b) m p ∨ bz m p = [] := by
  rcases h with h | h
  · exact .inl (.inl h)
  · have := h.bz
    by_cases z : (bz m p).length = 1
    · exact .inl (.inr z)
    · exact .inr (List.eq_nil_of_length_eq_zero (by omega))
/-- the list of the busy ones -/
def bzI (m : Mat) (p : Nat) : Row := (bz m p).map fun i : Nat => (i : Int)
theorem bz_at {m : Mat} {p k : Nat} {x : V} (h : ((bzI m p).map V.int)[k]? = some x) : ∃ i, (bz m p)[k]? = some i ∧ x = .int (i : Int) := by
  unfold bzI at h
  rw [List.getElem?_map, List.getElem?_map] at h
  cases e : (bz m p)[k]? with
  | none => rw [e] at h; cases h
  | some i => rw [e] at h; cases h; exact ⟨i, rfl, rfl⟩
theorem betB_yes {m : Mat} {p b i : Nat} (h : (ent m i p).natAbs < (ent m b p).natAbs) : betB m p b i = i := if_pos h
theorem betB_no {m : Mat} {p b i : Nat} (h : ¬ (ent m i p).natAbs < (ent m b p).natAbs) : betB m p b i = b := if_neg h
def sp_law_pull (Z : Ctx) : Sp := spPull
abbrev r_law_pull (Z : Ctx) : TS := (tWhile (tB (tC (.bl true))) (tSeq (tAsg (tLc (iRng1 (tCons (tCB (rLenG Z.K) (tCons (tVar 0) tNil)) tNil)) (gName 3) (tTest (tOp rNe (tOp (rIxG Z.K) (tOp (rIxG Z.K) (tVar 0) (tVar 3)) (tVar 1)) (tC (.int 0)))) (tVar 3) [3]) (gName 2)) (tSeq (tIfS (tTest (tOp (rEqD Z.K) (tVar 2) (tLst tNil))) (tRet (tC .non)) tNext) (tSeq (tAsg (tOp (rIxG Z.K) (tVar 2) (tC (.int 0))) (gName 4)) (tSeq (tFor (iList Z.K (tVar 2)) (gName 3) (tIfS (tTest (tOp rLtI (tCB rAbsG (tCons (tOp (rIxG Z.K) (tOp (rIxG Z.K) (tVar 0) (tVar 3)) (tVar 1)) tNil)) (tCB rAbsG (tCons (tOp (rIxG Z.K) (tOp (rIxG Z.K) (tVar 0) (tVar 4)) (tVar 1)) tNil)))) (tAsg (tVar 3) (gName 4)) tNext)) (tSeq (tIfS (tTest (tOp rEq (tCB (rLenG Z.K) (tCons (tVar 2) tNil)) (tC (.int 1)))) (tSeq (tAsg (tBM Z.K "list" rPopAt (tVar 0) (tCons (tVar 4) tNil)) (gName 5)) (tRet (tIf (tTest (tOp rGtI (tOp (rIxG Z.K) (tVar 5) (tVar 1)) (tC (.int 0)))) (tVar 5) (tLc (iList Z.K (tVar 5)) (gName 6) tYes (tUn uNegI (tVar 6)) [6])))) tNext) (tFor (iList Z.K (tVar 2)) (gName 3) (tIfS (tTest (tOp rNe (tVar 3) (tVar 4))) (tAsg (tCall (sp_law_less Z) [] E0 (tCons (tOp (rIxG Z.K) (tVar 0) (tVar 3)) (tCons (tOp rDivI (tOp (rIxG Z.K) (tOp (rIxG Z.K) (tVar 0) (tVar 3)) (tVar 1)) (tOp (rIxG Z.K) (tOp (rIxG Z.K) (tVar 0) (tVar 4)) (tVar 1))) (tCons (tOp (rIxG Z.K) (tVar 0) (tVar 4)) tNil)))) (gSub (tVar 0) (tVar 3) rSetG)) tNext))))))))
theorem ln_law_pull : sp_law_pull Z vs H Q E → vs.length = 2 := by rintro ⟨_, _, _, _, _, _, _, rfl, _⟩; rfl
abbrev nm_law_pull : List Str := ["left", "place", "busy", "number", "best", "lead", "one"]
theorem rd_law_pull (h : sp_law_pull Z vs H Q E) : r_law_pull Z (ends Q) (L2.start nm_law_pull vs) H := by
  obtain ⟨l, p, w, b, M, m, xs, rfl, hl, hM, hD, ha, hw, hp, hw1, hz, hb, hs, k⟩ := h
  show r_law_pull Z (ends Q) [some (.ref l), some (.int p), none, none, none, none, none] H
  unfold r_law_pull ends
  refine v_while (fun n σ H' => ∃ m1 xs1 a b1 c d e, n = mu m1 p ∧ σ = [some (.ref l), some (.int p), a, b1, c, d, e] ∧ Chg l H H' ∧ H' l = some (.lst xs1) ∧ All2 (rep (off H' M)) xs1 m1 ∧ Wid w m1 ∧ m1.length = m.length ∧ (PL (2 ^ b) m1 p ∨ bz m1 p = []) ∧ pull m1 p = pull m p) (mu m p)
    ⟨m, xs, _, _, _, _, _, rfl, rfl, .refl _, hl, ha, hw, rfl, ok1_pl hb, rfl⟩ ?_
  rintro n σ H1 ⟨m1, xs1, a, b1, c, d, e, rfl, rfl, ch, hl1, ha1, hw2, hlen, hpb, hpull⟩
  walk_at "rd"
  refine ⟨_, fun σ' H' h => h, ?_⟩
  have hx1 := ha1.len
  walk_at "rd"
  refine lcRF (β := Int) (n := xs1.length) (fun R h => by walk_at "rd"; exact h) (dom H1) (fun i => decide (ent m1 i p ≠ 0)) (fun i : Nat => (i : Int)) (by omega) (fun _ h => h) (fun _ => rfl) (fun i H2 hi s2 R k2 => ?_) (fun i H2 M1 hi hf s _ _ R k2 => ?_) ?_
  · obtain ⟨q, h1, h2⟩ := mat_at ha1 (i := i) (by omega)
    have h3 := s2 _ _ hl1
    have h4 := s2 _ _ (off_same _ _ h2)
    have g := at0_get (r := m1.getD i []) (i := p) (by rw [hw2.get (by omega)]; exact hp)
    show tTest _ [some (.ref l), some (.int (p : Int)), a, some (.int (i : Int)), c, d, e] H2 R
    walk_at "rd"
    exact k2 _ (.refl _)
  · show tVar 3 [some (.ref l), some (.int (p : Int)), a, some (.int (i : Int)), c, d, e] H2 R
    walk_at "rd"
    exact k2 _ _ (.refl _) rfl
  intro pb xsb H2 s2 n2 e2 a2
  rw [hx1] at a2
  have ea : xsb = (bzI m1 p).map V.int := all2_ints.mp (show All2 _ xsb (bzI m1 p) from a2)
  subst ea
  have hl2 := s2 _ _ hl1
  have ha2 := all2_mono (off_mono (M := M) s2) ha1
  have nbl : pb ≠ l := fun z => by rw [z, hl1] at n2; cases n2
  have c2 : Chg l H H2 := ch.trans (.of s2)
  have dM2 : ∀ a, M a → dom H2 a := fun a z => c2.dom (dom_of hl2) (hD a z)
  walk_at "rd"
  refine ⟨by decide, fun p0 n0 => ?_⟩
  refine w_eqD (α := Row) (a := bzI m1 p) (b := []) (rep_row_of (same_new n0 _ _ e2)) (rep_row_of upd_same) ?_
  walk_at "rd"
  cases eb : bz m1 p with
  | nil =>
    refine w_ite (fun _ => ?_) (fun h => absurd (by unfold bzI; rw [eb]; rfl) h)
    walk_at "rd"
    have e3 := pull_none (bz_nil eb)
    rw [hpull] at e3
    refine k .non xs1 _ (c2.trans (.of (same_new n0))) (same_new n0 _ _ hl2) ?_ ?_
    · rw [e3]
      exact all2_mono (off_mono (same_new n0)) ha2
    · rw [e3]
      exact (rfl : V.non = V.non)
  | cons b0 t =>
    refine w_ite (fun h => by unfold bzI at h; rw [eb] at h; cases h) (fun _ => ?_)
    have sn := same_new (o := .lst []) n0
    have e5 := sn _ _ e2
    have hl5 := sn _ _ hl2
    have ha5 := all2_mono (off_mono (M := M) sn) ha2
    have c5 : Chg l H (upd H2 p0 (.lst [])) := c2.trans (.of sn)
    generalize upd H2 p0 (.lst []) = H5 at e5 hl5 ha5 c5
    have dM5 : ∀ a, M a → dom H5 a := fun a z => c5.dom (dom_of hl5) (hD a z)
    have hlb := best_lb eb
    have rowAt : ∀ {H' : Hp} {xs' : List V} {m' : Mat} (i : Nat), All2 (rep (off H' M)) xs' m' → i < m'.length → ∃ q, xs'[i]? = some (.ref q) ∧ ¬ M q ∧ H' q = some (.lst ((m'.getD i []).map V.int)) := fun i h hi => by
      obtain ⟨q, h1, h2⟩ := mat_at h hi
      exact ⟨q, h1, (off_some.mp h2).1, off_same _ _ h2⟩
    walk_at "rd"
    refine w_ixAt 0 0 rfl e5 (show ((bzI m1 p).map V.int)[0]? = some (.int (b0 : Int)) by unfold bzI; rw [eb]; rfl) ?_
    walk_at "rd"
    have entA : ∀ {i : Nat}, i < m1.length → (m1.getD i [])[p]? = some (ent m1 i p) := fun hi => at0_get (by rw [hw2.get hi]; exact hp)
    have bzl : ∀ {i : Nat}, i ∈ bz m1 p → i < m1.length := fun h => (mem_bz.mp h).1
    refine forL (fun i σ H' => ∃ a, σ = [some (.ref l), some (.int p), some (.ref pb), a, some (.int ((((bz m1 p).take i).foldl (betB m1 p) b0 : Nat) : Int)), d, e] ∧ H' = H5) ⟨_, rfl, rfl⟩ (fun i σ H' _ ⟨a, _, h⟩ => h ▸ SqL.of e5) ?_ ?_
    · rintro i x σ H' hi ⟨a, rfl, rfl⟩
      obtain ⟨j, hj, rfl⟩ := bz_at hi
      have hjl := bzl (List.mem_of_getElem? hj)
      have hkl := bzl (bet_bz eb i)
      obtain ⟨q1, f1, _, f2⟩ := rowAt j ha5 hjl
      obtain ⟨q2, f3, _, f4⟩ := rowAt _ ha5 hkl
      have f5 := entA hjl
      have f6 := entA hkl
      have eT : ((bz m1 p).take (i + 1)).foldl (betB m1 p) b0 = betB m1 p (((bz m1 p).take i).foldl (betB m1 p) b0) j := by
        rw [List.take_succ, hj, List.foldl_append]
        rfl
      walk_at "rd"
      refine w_ite (fun h => ?_) (fun h => ?_)
      · walk_at "rd"
        refine ⟨_, (?_ : _ = [_, _, _, some (.int (j : Int)), _, _, _]), rfl⟩
        rw [eT, betB_yes (by omega)]
      · walk_at "rd"
        refine ⟨_, (?_ : _ = [_, _, _, some (.int (j : Int)), _, _, _]), rfl⟩
        rw [eT, betB_no (by omega)]
    · rintro σ H' ⟨a, rfl, rfl⟩
      have eB : ((bz m1 p).take ((bzI m1 p).map V.int).length).foldl (betB m1 p) b0 = (bz m1 p).foldl (betB m1 p) b0 := by
        rw [lenV]
        unfold bzI
        rw [List.length_map, List.take_length]
      rw [eB]
      generalize hB : (bz m1 p).foldl (betB m1 p) b0 = b2 at hlb
      obtain ⟨hb2, hbz, hbm⟩ := lb_some hlb
      obtain ⟨q, hq1, nq, hq2⟩ := rowAt b2 ha5 hb2
      have hbl := hw2.get hb2
      have lenI : ((bzI m1 p).map V.int).length = (bz m1 p).length := by
        rw [lenV]
        unfold bzI
        rw [List.length_map]
      walk_at "rd"
      rw [lenI]
      refine w_ite (fun h => ?_) (fun h => ?_)
      · have e1 : bz m1 p = [b2] := by
          have h1 : (bz m1 p).length = 1 := by omega
          rw [eb] at h1 hB ⊢
          cases t with
          | nil =>
            have : b0 = b2 := by
              have := hB
              simp only [List.foldl_cons, List.foldl_nil, betB_self] at this
              exact this
            rw [this]
          | cons y t => simp at h1
        have e3 := pull_one e1
        rw [hpull] at e3
        walk_at "rd"
        refine w_popAt hl5 (by omega) hq1 ?_
        have ch3 : Chg l H (upd H' l (.lst (xs1.eraseIdx b2))) := c5.trans chg_upd
        have ha3 : All2 (rep (off (upd H' l (.lst (xs1.eraseIdx b2))) M)) (xs1.eraseIdx b2) (pull m p).2 := by
          rw [e3, off_upd hM]
          exact ha5.erase b2
        have nql : q ≠ l := fun z => nq (z ▸ hM)
        have hq6 : (upd H' l (.lst (xs1.eraseIdx b2))) q = some (.lst ((m1.getD b2 []).map V.int)) := by rw [upd_ne nql]; exact hq2
        have g2 := entA hb2
        walk_at "rd"
        refine w_ite (fun h7 => ?_) (fun h7 => ?_)
        · walk_at "rd"
          refine k _ _ _ ch3 upd_same ha3 ?_
          rw [e3]
          refine ⟨ne_rn, ?_⟩
          unfold norm
          rw [if_pos (by unfold ent at h7; omega)]
          exact rep_row_of (off_in nq hq6)
        · walk_at "rd"
          refine lcLrT (xs := (m1.getD b2 []).map V.int) (fun R h => by walk_at "rd"; exact h) (fun i => - at0 (m1.getD b2 []) i) (SqL.of hq6) (by rw [lenV]; omega) (fun _ => rfl) (fun i x H8 hi s8 R k8 => ?_) ?_
          · obtain ⟨z, hz, rfl⟩ := row_at hi
            obtain rfl := at0_some hz
            show tUn _ _ [some (.ref l), some (.int (p : Int)), some (.ref pb), a, some (.int (b2 : Int)), some (.ref q), some (.int (at0 (m1.getD b2 []) i))] H8 R
            walk_at "rd"
            exact k8 _ (.refl _)
          · rw [map_at0 _ fun x => -x]
            intro p8 H8 s8 n8 e8
            have nM : ¬ M p8 := fun z => (Chg.dom chg_upd (dom_of upd_same) (dM5 _ z)) n8
            refine k _ (xs1.eraseIdx b2) H8 (ch3.trans (.of s8)) (s8 _ _ upd_same) (all2_mono (off_mono s8) ha3) ?_
            rw [e3]
            refine ⟨ne_rn, ?_⟩
            unfold norm
            rw [if_neg (by unfold ent at h7; omega)]
            exact rep_row_of (off_in nM e8)
      · have hn1 : (bz m1 p).length ≠ 1 := fun z => h (by omega)
        have hn2 : ¬ (bz m1 p).length ≤ 1 := by
          rw [eb] at hn1 ⊢
          simp at hn1 ⊢
          omega
        have hpb : PL (2 ^ b) m1 p := hpb.resolve_right (by rw [eb]; simp)
        obtain ⟨z1, z3⟩ := hpb.step (Nat.pow_pos (by decide)) hw2 hlb hn1
        walk_at "rd"
        refine forL (fun i σ H2 => ∃ xs2 c, σ = [some (.ref l), some (.int p), some (.ref pb), c, some (.int (b2 : Int)), d, e] ∧ Chg l H' H2 ∧ H2 l = some (.lst xs2) ∧ All2 (rep (off H2 M)) xs2 (rndL m1 p b2 ((bz m1 p).take i))) ⟨xs1, _, rfl, .refl _, hl5, by rw [List.take_zero, rndL_nil]; exact ha5⟩ (fun i σ H2 _ ⟨_, _, _, ch, _⟩ => SqL.of (ch _ _ nbl e5)) ?_ ?_
        · rintro i x σ H2 hi ⟨xs2, c1, rfl, ch2, hl2', ha2'⟩
          obtain ⟨j, hj, rfl⟩ := bz_at hi
          have hjm := List.mem_of_getElem? hj
          have hjl := bzl hjm
          have hjz := (mem_bz.mp hjm).2
          have hl3 := ha2'.len
          rw [rndL_length] at hl3
          have eT : (bz m1 p).take (i + 1) = (bz m1 p).take i ++ [j] := by
            rw [List.take_succ, hj]
            rfl
          have notin : j ∉ (bz m1 p).take i := fun z => by
            have nd : (bz m1 p).Nodup := List.Pairwise.filter _ List.nodup_range
            obtain ⟨i2, hi2, ej⟩ := List.getElem_of_mem z
            have hi3 : i2 < i := by rw [List.length_take] at hi2; omega
            rw [List.getElem_take] at ej
            obtain ⟨hil, ei⟩ := List.getElem?_eq_some_iff.mp hj
            exact List.pairwise_iff_getElem.mp nd i2 i (by omega) hil hi3 (ej.trans ei.symm)
          have eR : (rndL m1 p b2 ((bz m1 p).take i)).getD j [] = m1.getD j [] := by rw [rndL_getD hjl, if_neg notin]
          have eRb : (rndL m1 p b2 ((bz m1 p).take i)).getD b2 [] = m1.getD b2 [] := by
            rw [rndL_getD hb2]
            split
            · exact rndR_b m1 p b2
            · rfl
          obtain ⟨q3, hq3, nq3, hq4⟩ := rowAt j ha2' (by rw [rndL_length]; exact hjl)
          obtain ⟨q5, hq5, nq5, hq6⟩ := rowAt b2 ha2' (by rw [rndL_length]; exact hb2)
          rw [eR] at hq4
          rw [eRb] at hq6
          have g1 := entA hjl
          have g2 := entA hb2
          have hil := hw2.get hjl
          walk_at "rd"
          refine w_ite (fun h => ?_) (fun h => ?_)
          · walk_at "rd"
            refine w_I hbz ?_
            walk_at "rd"
            refine ⟨.ref q3, _, .ref q5, m1.getD j [], m1.getD b2 [], rfl, rep_row_of hq4, rep_row_of hq6, by omega, by omega, fun j' => lsd_ok (b := 4 * b + 2) (Nat.le_trans (z1 j p) bits3) (Nat.le_trans (z1 b2 j') bits3) hs, ?_⟩
            intro p3 H3 s3 n3 e3
            walk_at "rd"
            have hl4 := s3 _ _ hl2'
            refine w_set hl4 (by omega) ?_
            have nM : ¬ M p3 := fun z => ch2.dom (dom_of hl2') (dM5 _ z) n3
            refine ⟨_, _, rfl, ch2.trans ((Chg.of s3).trans chg_upd), upd_same, ?_⟩
            rw [eT, rndL_snoc hjl, off_upd hM]
            refine (all2_mono (off_mono s3) ha2').set j ?_
            have eRnd : rndR m1 p b2 j = less (m1.getD j []) ((ent m1 j p).fdiv (ent m1 b2 p)) (m1.getD b2 []) := by
              unfold rndR lsd
              rw [if_pos ⟨by omega, hjz⟩]
              rfl
            rw [eRnd]
            exact rep_row_of (off_in nM e3)
          · walk_at "rd"
            refine ⟨xs2, _, rfl, ch2, hl2', ?_⟩
            have : j = b2 := by omega
            rw [eT, rndL_skip (by rw [this]; exact rndR_b m1 p b2)]
            exact ha2'
        · rintro σ H2 ⟨xs2, c1, rfl, ch2, hl2', ha2'⟩
          rw [lenI, List.take_length, rndL_bz] at ha2'
          refine ⟨mu (rnd m1 p b2) p, mu_rnd hw2 hlb hn2, rnd m1 p b2, xs2, _, _, _, _, _, rfl, rfl, c5.trans ch2, hl2', ha2', rnd_wid hw2, by rw [rnd_length, hlen], .inl z3, ?_⟩
          rw [← pull_round hw2 hlb, hpull]
def sp_law_stairs_rest (Z : Ctx) : Sp := spRest (fun xs => .lst xs)
abbrev r_law_stairs_rest (Z : Ctx) : TS := (tSeq (tAsg (tLc (iList Z.K (tVar 0)) (gName 3) tYes (tCB (rLstG Z.K) (tCons (tVar 3) tNil)) [3]) (gName 2)) (tSeq (tAsg (tLst tNil) (gName 4)) (tSeq (tFor (iRng1 (tCons (tVar 1) tNil)) (gName 5) (tSeq (tAsg (tCall (sp_law_pull Z) [] E0 (tCons (tVar 2) (tCons (tVar 5) tNil))) (gName 6)) (tIfS (tTest (tOp rNotNo (tVar 6) (tC .non))) (tSeq (tAsg (tLc (iList Z.K (tVar 4)) (gName 3) tYes (tCall (sp_law_less Z) [] E0 (tCons (tVar 3) (tCons (tOp rDivI (tOp (rIxG Z.K) (tVar 3) (tVar 5)) (tOp (rIxG Z.K) (tVar 6) (tVar 5))) (tCons (tVar 6) tNil)))) [3]) (gName 4)) (tDrop (tBM Z.K "list" rAppend (tVar 4) (tCons (tVar 6) tNil)))) tNext))) (tRet (tLst (tCons (tVar 4) (tCons (tVar 2) tNil)))))))
theorem ln_law_stairs_rest : sp_law_stairs_rest Z vs H Q E → vs.length = 2 := by rintro ⟨_, _, _, _, _, rfl, _⟩; rfl
abbrev nm_law_stairs_rest : List Str := ["rows", "width", "left", "row", "stairs", "place", "lead"]
theorem rd_law_stairs_rest (h : sp_law_stairs_rest Z vs H Q E) : r_law_stairs_rest Z (ends Q) (L2.start nm_law_stairs_rest vs) H := by
  obtain ⟨v, w, w', b, m, rfl, ⟨l0, xs0, rfl, h0, ha0⟩, ⟨hw, hww, hw9, hw1, hz, hsz⟩, k⟩ := h
  show r_law_stairs_rest Z (ends Q) [some (.ref l0), some (.int w), none, none, none, none, none] H
  unfold r_law_stairs_rest ends
  have hl0 := ha0.len
  walk_at "rd"
  refine lcCopyT (fun R h => by walk_at "rd"; exact h) (dom H) h0 ha0 (by omega) (fun _ h => h) (fun _ => by rfl) (fun _ => by rfl) ?_
  intro l xs1 H1 s1 n1 e1 a1
  walk_at "rd"
  refine ⟨by decide, fun s hs => ?_⟩
  have hsl : s ≠ l := fun z => by rw [z, e1] at hs; cases hs
  have hs0 : H s = none := s1.free hs
  obtain ⟨b0, hb0⟩ := some_le m
  have inv := stF_inv hw hb0
  walk_at "rd"
  refine forR (n := w) (fun n σ H2 => ∃ s xs ys a b c, σ = [some (.ref l0), some (.int w), some (.ref l), a, some (.ref s), b, c] ∧ Same H H2 ∧ H s = none ∧ s ≠ l ∧ H2 s = some (.lst xs) ∧ H2 l = some (.lst ys) ∧
    All2 (rep (off H2 (wth (wth (dom H) l) s))) xs (stF m n).1 ∧ All2 (rep (off H2 (wth (wth (dom H) l) s))) ys (stF m n).2)
    ⟨s, [], xs1, _, _, _, rfl, s1.trans (same_new hs), hs0, hsl, upd_same, by rw [upd_ne hsl.symm]; exact e1, trivial, ?_⟩ ?_ ?_
  · refine all2_mono (off_imp (same_new hs) fun a h => ?_) a1
    rcases h with h | h
    · exact .inl h
    · exact .inr (h ▸ hs)
  · rintro n σ H2 hn ⟨s, xs, ys, a, b1, c, rfl, sm, hs0, hsl, hs2, hl2, ha2, hy2⟩
    obtain ⟨v1, v2, v3, v4, v5, v6, v7⟩ := inv n
    have hlx := ha2.len
    have hly := hy2.len
    obtain ⟨⟨b', ok, hb'⟩, cm⟩ := hsz.step hw n hn
    have hMd : ∀ a, wth (wth (dom H) l) s a → dom H2 a := fun a h => by
      rcases h with (h | h) | h
      · exact dom_same sm h
      · exact h ▸ dom_of hl2
      · exact h ▸ dom_of hs2
    show tSeq _ _ _ [some (.ref l0), some (.int w), some (.ref l), a, some (.ref s), some (.int (n : Int)), c] H2
    walk_at "rd"
    refine ⟨l, n, w', b', wth (wth (dom H) l) s, (stF m n).2, ys, rfl, hl2, .inl (.inr rfl), hMd, hy2, v2, by omega, hw1, by omega, ok, hb', ?_⟩
    intro v ys' H3 ch3 hl3 hy3 hv3
    have hs3 : H3 s = some (.lst xs) := ch3 _ _ hsl hs2
    have ha3 : All2 (rep (off H3 (wth (wth (dom H) l) s))) xs (stF m n).1 := all2_mono (ch3.off (.inl (.inr rfl))) ha2
    have sm3 : Same H H3 := fun a o e => ch3 a o (fun z => by rw [z, n1] at e; cases e) (sm a o e)
    have eS : stF m (n + 1) = stStep (stF m n) n := stF_succ m n
    unfold stStep at eS
    cases ep : pull (stF m n).2 n with
    | mk o l' =>
      rw [ep] at eS hy3 hv3
      cases o with
      | none =>
        obtain rfl : v = .non := hv3
        walk_at "rd"
        exact ⟨s, xs, ys', _, _, _, rfl, sm3, hs0, hsl, hs3, hl3, by rw [eS]; exact ha3, by rw [eS]; exact hy3⟩
      | some r =>
        obtain ⟨vn, hv4⟩ := hv3
        obtain ⟨q6, rfl, hq6⟩ := rep_row.mp hv4
        have hq6' := off_same _ _ hq6
        obtain ⟨r1, _, _, r2, _⟩ := pull_some v2 ep
        have cm := cm r (by rw [ep])
        have g2 := at0_get (r := r) (i := n) (by omega)
        walk_at "rd"
        refine lcLT (fun R h => by walk_at "rd"; exact h) (wth (dom H) l) (fun i => lsd n r ((stF m n).1.getD i [])) (SqL.of hs3) (by omega) (fun a h => by
            rcases h with h | h
            · exact dom_same sm3 h
            · exact h ▸ dom_of hl3) (fun _ => rfl) (fun i x H4 M1 hi s4 s4' dm R k4 => ?_) ?_
        · have hi2 := (List.getElem?_eq_some_iff.mp hi).1
          obtain ⟨q, h1, h2⟩ := mat_at ha3 (i := i) (by omega)
          rw [h1] at hi
          cases hi
          have h3 := s4 _ _ (off_same _ _ h2)
          have h5 := s4 _ _ hq6'
          have e1 := v1.get (i := i) (by omega)
          have g1 := at0_get (r := (stF m n).1.getD i []) (i := n) (by omega)
          show tCall _ _ _ _ [some (.ref l0), some (.int w), some (.ref l), some (.ref q), some (.ref s), some (.int (n : Int)), some (.ref q6)] H4 R
          walk_at "rd"
          refine w_I (by omega) ?_
          walk_at "rd"
          refine ⟨.ref q, _, .ref q6, _, r, rfl, rep_row_of h3, rep_row_of h5, by omega, by omega, fun j => cm i (by omega) j, ?_⟩
          intro p7 H7 s7 n7 e7
          exact k4 _ _ s7 (rep_row_of (off_in (fun z => dm _ z n7) e7))
        · intro s' xs' H5 s5 n5 e5 a5
          have hlx' := a5.len
          rw [List.length_map, List.length_range] at hlx'
          have hs'l : s' ≠ l := fun z => by rw [z, hl3] at n5; cases n5
          walk_at "rd"
          refine w_app e5 (by omega) ?_
          walk_at "rd"
          have of5 : Same (off H3 (wth (wth (dom H) l) s)) (off H5 (wth (wth (dom H) l) s')) := off_imp s5 fun a h => by
            rcases h with h | h
            · exact .inl (.inl h)
            · exact .inr (h ▸ n5)
          refine ⟨s', xs' ++ [.ref q6], ys', _, _, _, rfl, same_mut (sm3.trans s5) (sm3.free n5), sm3.free n5, hs'l, upd_same, by rw [upd_ne hs'l.symm]; exact s5 _ _ hl3, ?_, ?_⟩
          · rw [off_upd wth_l, eS]
            refine All2.snoc ?_ (rep_row_of (of5 _ _ hq6))
            rw [hlx] at a5
            have em : (stF m n).1.map (lsd n r) = (List.range (stF m n).1.length).map fun i => lsd n r ((stF m n).1.getD i []) := by
              conv => lhs; rw [← list_eq_range (stF m n).1]
              rw [List.map_map]
              rfl
            rw [em]
            exact a5
          · rw [off_upd wth_l, eS]
            exact all2_mono of5 hy3
  · rintro σ H2 ⟨s, xs, ys, a, b1, c, rfl, sm, hs0, hsl, hs2, hl2, ha2, hy2⟩
    walk_at "rd"
    refine ⟨small _ (by simp), fun p hp => ?_⟩
    have nsp : s ≠ p := fun z => by rw [z, hp] at hs2; cases hs2
    have nlp : l ≠ p := fun z => by rw [z, hp] at hl2; cases hl2
    exact k p s l xs ys _ (sm.trans (same_new hp)) (sm.free hp) hs0 n1 hsl upd_same (by rw [upd_ne nsp]; exact hs2) (by rw [upd_ne nlp]; exact hl2) (all2_mono (off_mono (same_new hp)) ha2) (all2_mono (off_mono (same_new hp)) hy2)
def sp_law_stairs (Z : Ctx) : Sp := spStairs
abbrev r_law_stairs (Z : Ctx) : TS := (tRet (tOp (rIxG Z.K) (tCall (sp_law_stairs_rest Z) [] E0 (tCons (tVar 0) (tCons (tVar 1) tNil))) (tC (.int 0))))
theorem ln_law_stairs : sp_law_stairs Z vs H Q E → vs.length = 2 := by rintro ⟨_, _, _, _, _, rfl, _⟩; rfl
abbrev nm_law_stairs : List Str := ["rows", "width"]
theorem rd_law_stairs (h : sp_law_stairs Z vs H Q E) : r_law_stairs Z (ends Q) (L2.start nm_law_stairs vs) H := by
  obtain ⟨v, w, w', b, m, rfl, hr, pre, k⟩ := h
  show r_law_stairs Z (ends Q) [some v, some (.int w)] H
  unfold r_law_stairs ends
  walk_at "rd"
  refine ⟨v, w, w', b, m, rfl, hr, pre, fun p s l xs ys H' sm hp hs hl hsl ep es el ha hy => ?_⟩
  walk_at "rd"
  refine w_ixAt 0 0 rfl ep rfl ?_
  exact k s xs H' sm hs es (all2_mono (off_less fun a h => by
    rcases h with h | h
    · exact .inl (.inl h)
    · exact .inr h) ha)
end
end G
end
section
set_option Elab.async false
set_option linter.all false
set_option maxRecDepth 100000
namespace G
open PySem L2 PyProof.Rows
local macro_rules | `(tactic| walk_at "rd") => `(tactic| repeat (first
  | (with_reducible refine v_seq ?_)
  | (with_reducible refine v_asg ?_)
  | (with_reducible refine w_cons ?_)
  | (with_reducible refine w_nil ?_)
  | (with_reducible refine w_op ?_)
  | (with_reducible refine w_c ?_)
  | (with_reducible refine w_I0 ?_)
  | (with_reducible refine w_cb ?_)
  | (with_reducible refine w_call ?_)
  | (with_reducible refine v_ret ?_)
  | (with_reducible refine v_next ?_)
  | (with_reducible refine w_ixR (by assumption) (by assumption) ?_)
  | (with_reducible refine w_ix (by assumption) (by assumption) ?_)
  | (with_reducible refine w_test ?_)
  | (with_reducible refine w_tB ?_)
  | (with_reducible refine w_and ?_)
  | (with_reducible refine w_or ?_)
  | (with_reducible refine w_not ?_)
  | (with_reducible refine w_ifE ?_)
  | (with_reducible refine v_ifS ?_)
  | (with_reducible refine w_tt ?_)
  | (with_reducible refine w_ff ?_)
  | (with_reducible refine w_eqI ?_)
  | (with_reducible refine w_neI ?_)
  | (with_reducible refine w_U ?_)
  | (with_reducible refine w_un ?_)
  | (with_reducible refine w_len (by assumption) ?_)
  | (with_reducible refine w_abs ?_)
  | (with_reducible refine w_int ?_)
  | (with_reducible refine w_isN0 ?_)
  | (with_reducible refine w_isN1 (by assumption) ?_)
  | (with_reducible refine w_isN1 ne_in ?_)
  | (with_reducible refine w_isN1 ne_rn ?_)
  | (with_reducible refine w_notN0 ?_)
  | (with_reducible refine w_notN1 ne_in ?_)
  | (with_reducible refine w_notN1 ne_rn ?_)
  | (with_reducible refine v_lst ?_)
  | (with_reducible refine v_tup ?_)
  | (with_reducible refine w_notN1 (by assumption) ?_)
  | (with_reducible refine v_drop ?_)
  | (with_reducible refine w_bm ?_)
  | (with_reducible refine v_for ?_)
  | (with_reducible refine v_rng1 ?_)
  | (with_reducible refine v_rng2 ?_)
  | (with_reducible refine v_list ?_)
  | (with_reducible refine w_sub ?_)
  | (with_reducible refine v_ip ?_)
  | (with_reducible refine v_augS ?_)
  | (with_reducible refine v_retN ?_)
  | (with_reducible refine w_yes ?_)
  | (with_reducible refine tv_0 ?_)
  | (with_reducible refine nv_0 ?_)
  | (with_reducible refine av_0 ?_)
  | (with_reducible refine tv_1 ?_)
  | (with_reducible refine nv_1 ?_)
  | (with_reducible refine av_1 ?_)
  | (with_reducible refine tv_2 ?_)
  | (with_reducible refine nv_2 ?_)
  | (with_reducible refine av_2 ?_)
  | (with_reducible refine tv_3 ?_)
  | (with_reducible refine nv_3 ?_)
  | (with_reducible refine av_3 ?_)
  | (with_reducible refine tv_4 ?_)
  | (with_reducible refine nv_4 ?_)
  | (with_reducible refine av_4 ?_)
  | (with_reducible refine tv_5 ?_)
  | (with_reducible refine nv_5 ?_)
  | (with_reducible refine av_5 ?_)
  | (with_reducible refine tv_6 ?_)
  | (with_reducible refine nv_6 ?_)
  | (with_reducible refine av_6 ?_)
  | (with_reducible refine tv_7 ?_)
  | (with_reducible refine nv_7 ?_)
  | (with_reducible refine av_7 ?_)
  | (with_reducible refine tv_8 ?_)
  | (with_reducible refine nv_8 ?_)
  | (with_reducible refine av_8 ?_)
  | (with_reducible refine tv_9 ?_)
  | (with_reducible refine nv_9 ?_)
  | (with_reducible refine av_9 ?_)
  | (with_reducible refine tv_10 ?_)
  | (with_reducible refine nv_10 ?_)
  | (with_reducible refine av_10 ?_)
  | (with_reducible refine tv_11 ?_)
  | (with_reducible refine nv_11 ?_)
  | (with_reducible refine av_11 ?_)
  | (with_reducible refine tv_12 ?_)
  | (with_reducible refine nv_12 ?_)
  | (with_reducible refine av_12 ?_)
  | (with_reducible refine tv_13 ?_)
  | (with_reducible refine nv_13 ?_)
  | (with_reducible refine av_13 ?_)
  | (with_reducible refine tv_14 ?_)
  | (with_reducible refine nv_14 ?_)
  | (with_reducible refine av_14 ?_)
  | (with_reducible refine tv_15 ?_)
  | (with_reducible refine nv_15 ?_)
  | (with_reducible refine av_15 ?_)
  | (with_reducible refine ⟨_, rfl, ⟨_, SqL.of (by assumption)⟩, ?_⟩)
  | (with_reducible refine ⟨_, rfl, (by omega), (by omega), ?_⟩)
  | (with_reducible refine ⟨w_tyL (by assumption), ?_⟩)
  | (with_reducible refine w_isiII ?_)
  | (with_reducible refine w_isiIB ?_)
  | (with_reducible refine w_isiBB ?_)
  | (with_reducible refine w_isiBI ?_)
  | (with_reducible refine w_isiNL ?_)
  | (with_reducible refine w_isiLL (by assumption) ?_)
  | (with_reducible refine v_sl ?_)
  | (with_reducible refine w_nff ?_)
  | (with_reducible refine w_ntt ?_)
  | (with_reducible refine v_chain ?_)
  | (with_reducible refine v_andV ?_)
  | (with_reducible refine v_orV ?_)
  | (with_reducible refine v_notV ?_)
  | (with_reducible refine v_noP ?_)
  | (with_reducible refine v_part ?_)
  | (with_reducible refine v_fld ?_)
  | (with_reducible refine v_sfld ?_)
  | (with_reducible refine ⟨_, (rfl : V.bl _ = V.bl _), ?_⟩)
  | (with_reducible refine ⟨_, (rfl : V.ref _ = V.ref _), ?_⟩)
  | (with_reducible refine ⟨_, (rfl : [V.int _] = [V.int _]), ?_⟩)
  | (with_reducible refine ⟨_, (rfl : V.int _ = V.int _), ?_⟩)
  | (with_reducible refine ⟨⟨_, SqL.of (by assumption)⟩, ?_⟩)
  | (with_reducible refine ⟨(by (first | omega | (rw [lenV]; omega)) : -(2 ^ 62) ≤ _), (by first | omega | (rw [lenV]; omega)), ?_⟩)
  ))
section
variable {Z : Ctx} {vs : List V} {H : Hp} {Q : VK} {E : XK}
def sp_law_reduced (Z : Ctx) : Sp := spRed
abbrev r_law_reduced (Z : Ctx) : TS := (tSeq (tAsg (tCB (rLstG Z.K) (tCons (tVar 1) tNil)) (gName 2)) (tSeq (tFor (iList Z.K (tVar 0)) (gName 3) (tSeq (tAsg (tOp (rIxG Z.K) (tLc (iRng1 (tCons (tCB (rLenG Z.K) (tCons (tVar 3) tNil)) tNil)) (gName 5) (tTest (tOp rNe (tOp (rIxG Z.K) (tVar 3) (tVar 5)) (tC (.int 0)))) (tVar 5) [5]) (tC (.int 0))) (gName 4)) (tAsg (tCall (sp_law_less Z) [] E0 (tCons (tVar 2) (tCons (tOp rDivI (tOp (rIxG Z.K) (tVar 2) (tVar 4)) (tOp (rIxG Z.K) (tVar 3) (tVar 4))) (tCons (tVar 3) tNil)))) (gName 2)))) (tRet (tVar 2))))
theorem ln_law_reduced : sp_law_reduced Z vs H Q E → vs.length = 2 := by rintro ⟨_, _, _, _, _, _, rfl, _⟩; rfl
abbrev nm_law_reduced : List Str := ["stairs", "row", "left", "stair", "place", "at"]
theorem rd_law_reduced (h : sp_law_reduced Z vs H Q E) : r_law_reduced Z (ends Q) (L2.start nm_law_reduced vs) H := by
  obtain ⟨v, u, S, r, a, b, rfl, ⟨l, xs, rfl, hl, ha⟩, hr, ⟨hW, hr1, hS1, hlead, hb, hrb, hsz⟩, k⟩ := h
  obtain ⟨p, rfl, hp⟩ := rep_row.mp hr
  show r_law_reduced Z (ends Q) [some (.ref l), some (.ref p), none, none, none, none] H
  unfold r_law_reduced ends
  have hlen := ha.len
  walk_at "rd"
  refine w_lst hp fun q0 hq0 => ?_
  have hl' := same_new (o := .lst (r.map V.int)) hq0 _ _ hl
  walk_at "rd"
  refine forL (xs := xs) (fun i σ H' => ∃ q c d e, σ = [some (.ref l), some (.ref p), some (.ref q), c, d, e] ∧ Same H H' ∧ H q = none ∧ H' q = some (.lst ((redF S r i).map V.int))) ⟨q0, _, _, _, rfl, same_new hq0, hq0, upd_same⟩ (fun i σ H' _ ⟨q, c, d, e, _, s, _⟩ => SqL.of (s _ _ hl)) ?_ ?_
  · rintro i x σ H' hi ⟨q, c, d, e, rfl, s, hq, eq⟩
    have hi2 := (List.getElem?_eq_some_iff.mp hi).1
    obtain ⟨q1, h1, h2⟩ := mat_at ha (i := i) (by omega)
    rw [h1] at hi
    cases hi
    have h3 := s _ _ h2
    obtain ⟨z, hz⟩ := hlead i (by omega)
    obtain ⟨f1, f2⟩ := redF_inv hW rfl hb hrb i (by omega)
    have wl := hW.get (i := i) (by omega)
    have g1 := at0_get (r := redF S r i) (i := z) (by have := hz.1; omega)
    have g2 := at0_get (r := S.getD i []) (i := z) hz.1
    have eS : redF S r (i + 1) = lsd z (S.getD i []) (redF S r i) := by
      rw [redF_succ (by omega)]
      unfold redStep
      rw [leadPl_eq hz]
    walk_at "rd"
    refine lcRF (β := Int) (n := ((S.getD i []).map V.int).length) (fun R h => by walk_at "rd"; exact h) (dom H') (fun j => decide (at0 (S.getD i []) j ≠ 0)) (fun j : Nat => (j : Int)) (by rw [lenV]; omega) (fun _ h => h) (fun _ => rfl) (fun j H2 hj s2 R k2 => ?_) (fun j H2 M1 hj hf s2 _ _ R k2 => ?_) ?_
    · rw [lenV] at hj
      have h4 := s2 _ _ h3
      have g := at0_get (r := S.getD i []) (i := j) hj
      show tTest _ [some (.ref l), some (.ref p), some (.ref q), some (.ref q1), d, some (.int (j : Int))] H2 R
      walk_at "rd"
      exact k2 _ (.refl _)
    · show tVar 5 [some (.ref l), some (.ref p), some (.ref q), some (.ref q1), d, some (.int (j : Int))] H2 R
      walk_at "rd"
      exact k2 _ _ (.refl _) rfl
    intro pb xsb H2 s2 n2 e2 a2
    rw [lenV] at a2
    have ea := all2_ints.mp (show All2 _ xsb (((List.range (S.getD i []).length).filter fun j => decide (at0 (S.getD i []) j ≠ 0)).map fun j : Nat => (j : Int)) from a2)
    have eh := filter_head (n := (S.getD i []).length) (q := z) (f := fun j => decide (at0 (S.getD i []) j ≠ 0)) hz.1 (decide_eq_true hz.2.1) (fun j hj => decide_eq_false (fun n => n (hz.2.2 j hj)))
    have h5 := s2 _ _ h3
    have eq2 := s2 _ _ eq
    walk_at "rd"
    refine w_ixAt 0 0 rfl e2 (show xsb[0]? = some (.int (z : Int)) by rw [ea, List.getElem?_map, List.getElem?_map, eh]; rfl) ?_
    walk_at "rd"
    refine w_I hz.2.1 ?_
    walk_at "rd"
    refine ⟨.ref q, _, .ref q1, redF S r i, S.getD i [], rfl, rep_row_of eq2, rep_row_of h5, by omega, by omega, fun j => ?_, ?_⟩
    · refine CMulG.of (bd_of (Nat.le_trans (fdiv_abs _ _) (f2 z))) (bd_of (hb i j)) ?_
      have : i * (b + 1) ≤ S.length * (b + 1) := Nat.mul_le_mul_right _ (by omega)
      omega
    intro p3 H3 s3 n3 e3
    walk_at "rd"
    refine ⟨p3, _, _, _, rfl, s.trans (s2.trans s3), s.free (s2.free n3), ?_⟩
    rw [eS]
    exact e3
  · rintro σ H' ⟨q, c, d, e, rfl, s, hq, eq⟩
    walk_at "rd"
    rw [hlen, redF_all] at eq
    exact k q H' s hq eq
def sp_law_held (Z : Ctx) : Sp := fun vs H Q _ => ∃ v u, ∃ S : Mat, ∃ r : Row, ∃ a b : Nat, vs = [v, u] ∧ rep H v S ∧ rep H u r ∧ RedPre S r a b ∧ ∀ H', Same H H' → Q (.bl (isz (red S r))) H'
abbrev r_law_held (Z : Ctx) : TS := (tRet (tCall (sp_law_zero Z) [] E0 (tCons (tCall (sp_law_reduced Z) [] E0 (tCons (tVar 0) (tCons (tVar 1) tNil))) tNil)))
theorem ln_law_held : sp_law_held Z vs H Q E → vs.length = 2 := by rintro ⟨_, _, _, _, _, _, rfl, _⟩; rfl
abbrev nm_law_held : List Str := ["stairs", "row"]
theorem rd_law_held (h : sp_law_held Z vs H Q E) : r_law_held Z (ends Q) (L2.start nm_law_held vs) H := by
  obtain ⟨v, u, S, r, a, b, rfl, hS, hr, pre, k⟩ := h
  show r_law_held Z (ends Q) [some v, some u] H
  unfold r_law_held ends
  walk_at "rd"
  refine ⟨v, u, S, r, a, b, rfl, hS, hr, pre, fun p H1 s1 n1 e1 => ?_⟩
  walk_at "rd"
  have el : (red S r).length = r.length := by
    rw [← redF_all]
    exact (redF_inv pre.1 rfl pre.2.2.2.2.1 pre.2.2.2.2.2.1 _ (Nat.le_refl _)).1
  refine ⟨.ref p, red S r, rfl, rep_row_of e1, by rw [el]; exact pre.2.1, fun H2 s2 => k H2 (s1.trans s2)⟩
/-- a list of so many whole numbers, or not -/
def sp_law_is_row (Z : Ctx) : Sp := fun vs H Q _ => ∃ v, ∃ n : Nat, ∃ r : Row, vs = [v, .int (n : Int)] ∧ rep H v r ∧ r.length = n ∧ Q (.bl true) H
abbrev r_law_is_row (Z : Ctx) : TS := (tSeq (tIfS (tOr (tNot (tB (tCB (rIsi Z.K) (tCons (tVar 0) (tCons (tC (.ty "list")) tNil))))) (tTest (tOp rNe (tCB (rLenG Z.K) (tCons (tVar 0) tNil)) (tVar 1)))) (tRet (tC (.bl false))) tNext) (tSeq (tFor (iList Z.K (tVar 0)) (gName 2) (tIfS (tOr (tNot (tB (tCB (rIsi Z.K) (tCons (tVar 2) (tCons (tC (.ty "int")) tNil))))) (tB (tCB (rIsi Z.K) (tCons (tVar 2) (tCons (tC (.ty "bool")) tNil))))) (tRet (tC (.bl false))) tNext)) (tRet (tC (.bl true)))))
theorem ln_law_is_row : sp_law_is_row Z vs H Q E → vs.length = 2 := by rintro ⟨_, _, _, rfl, _⟩; rfl
abbrev nm_law_is_row : List Str := ["told", "width", "one"]
theorem rd_law_is_row (h : sp_law_is_row Z vs H Q E) : r_law_is_row Z (ends Q) (L2.start nm_law_is_row vs) H := by
  obtain ⟨v, n, r, rfl, hr, hl, q⟩ := h
  obtain ⟨p, rfl, hp⟩ := rep_row.mp hr
  show r_law_is_row Z (ends Q) [some (.ref p), some (.int n), none] H
  unfold r_law_is_row ends
  walk_at "rd"
  rw [lenV, hl]
  refine w_ite (fun h => by omega) (fun h => ?_)
  walk_at "rd"
  refine forL (fun i σ H' => ∃ a, σ = [some (.ref p), some (.int n), a] ∧ H' = H) ⟨_, rfl, rfl⟩ (fun i σ H' _ ⟨a, _, h⟩ => h ▸ SqL.of hp) ?_ ?_
  · rintro i x σ H' hi ⟨a, rfl, rfl⟩
    obtain ⟨z, hz, rfl⟩ := row_at hi
    walk_at "rd"
    exact ⟨_, rfl, rfl⟩
  · rintro σ H' ⟨a, rfl, rfl⟩
    walk_at "rd"
    exact q
theorem mixF_skip {a : Row} {g : Mat} {w n : Nat} (h : at0 a n = 0) : mixF a g w (n + 1) = mixF a g w n := by
  rw [mixF_succ]
  refine row_ext (by simp [mixF]) fun i => ?_
  by_cases hi : i < w
  · have e : at0 ((List.range w).map fun j => at0 (mixF a g w n) j + at0 a n * ent g n j) i = at0 (mixF a g w n) i + at0 a n * ent g n i := by
      unfold at0
      rw [List.getD_eq_getElem?_getD, List.getElem?_map, range_get, if_pos hi]
      rfl
    rw [e, h]
    omega
  · rw [at0_out (by simp; omega), at0_out (by rw [mixF_length]; omega)]
def spMix : Sp := fun vs H Q _ => ∃ v u, ∃ w : Nat, ∃ a : Row, ∃ m : Mat, vs = [v, u, .int (w : Int)] ∧ rep H v a ∧ rep H u m ∧ Wid w m ∧ a.length = m.length ∧ w ≤ 1000 ∧ m.length ≤ 1000 ∧ (∀ i j, CMulG (at0 a i) (ent m i j)) ∧ NewR H (mixM a m w) Q
def sp_law_mixed (Z : Ctx) : Sp := spMix
abbrev r_law_mixed (Z : Ctx) : TS := (tSeq (tAsg (tOp rRep (tLst (tCons (tC (.int 0)) tNil)) (tVar 2)) (gName 3)) (tSeq (tFor (iRng1 (tCons (tCB (rLenG Z.K) (tCons (tVar 1) tNil)) tNil)) (gName 4) (tAsg (tLc (iRng1 (tCons (tVar 2) tNil)) (gName 5) tYes (tOp rAddI (tOp (rIxG Z.K) (tVar 3) (tVar 5)) (tOp rMulI (tOp (rIxG Z.K) (tVar 0) (tVar 4)) (tOp (rIxG Z.K) (tOp (rIxG Z.K) (tVar 1) (tVar 4)) (tVar 5)))) [5]) (gName 3))) (tRet (tVar 3))))
theorem ln_law_mixed : sp_law_mixed Z vs H Q E → vs.length = 3 := by rintro ⟨_, _, _, _, _, rfl, _⟩; rfl
abbrev nm_law_mixed : List Str := ["amounts", "rows", "width", "total", "at", "place"]
theorem rd_law_mixed (h : sp_law_mixed Z vs H Q E) : r_law_mixed Z (ends Q) (L2.start nm_law_mixed vs) H := by
  obtain ⟨v, u, w, a, m, rfl, hr, ⟨l, xs, rfl, hl, ha⟩, hw, ham, hw1, hm1, hc, k⟩ := h
  obtain ⟨p, rfl, hp⟩ := rep_row.mp hr
  show r_law_mixed Z (ends Q) [some (.ref p), some (.ref l), some (.int w), none, none, none] H
  unfold r_law_mixed ends
  have hlen := ha.len
  walk_at "rd"
  refine ⟨by decide, fun l1 n1 => ?_⟩
  walk_at "rd"
  refine w_rep upd_same (by omega) fun p2 n2 => ?_
  have s2 := (same_new (o := .lst [.int 0]) n1).trans (same_new (o := .lst ((List.replicate w (0 : Int)).map V.int)) n2)
  have hl2 := s2 _ _ hl
  walk_at "rd"
  refine forR (n := xs.length) (fun i σ H' => ∃ q b c, σ = [some (.ref p), some (.ref l), some (.int w), some (.ref q), b, c] ∧ Same H H' ∧ H q = none ∧ H' q = some (.lst ((mixF a m w i).map V.int))) ⟨p2, _, _, rfl, s2, free_of n1 n2, ?_⟩ ?_ ?_
  · rw [mixF_zero]
    exact upd_same
  · rintro i σ H' hi ⟨q, b, c, rfl, s, nq, eq⟩
    obtain ⟨q1, h1, h2⟩ := mat_at ha (i := i) (by omega)
    show tAsg _ _ _ [some (.ref p), some (.ref l), some (.int w), some (.ref q), some (.int (i : Int)), c] H'
    have ga := at0_get (r := a) (i := i) (by omega)
    have wl := hw.get (i := i) (by omega)
    walk_at "rd"
    refine lcRrT (n := w) (fun R h => by walk_at "rd"; exact h) (fun j => at0 (mixF a m w i) j + at0 a i * ent m i j) (by omega) (fun _ => rfl) (fun j H2 hj s2 R k2 => ?_) ?_
    · have f1 := s2 _ _ eq
      have f2 := s2 _ _ (s _ _ hp)
      have f3 := s2 _ _ (s _ _ hl)
      have f4 := s2 _ _ (s _ _ h2)
      have g1 := at0_get (r := mixF a m w i) (i := j) (by rw [mixF_length]; exact hj)
      have g2 := at0_get (r := m.getD i []) (i := j) (by omega)
      show tOp _ _ _ [some (.ref p), some (.ref l), some (.int w), some (.ref q), some (.int (i : Int)), some (.int (j : Int))] H2 R
      walk_at "rd"
      refine w_I (hc i j) ?_
      walk_at "rd"
      exact k2 _ (.refl _)
    · rw [← mixF_succ]
      intro p3 H3 s3 n3 e3
      walk_at "rd"
      exact ⟨p3, _, _, rfl, s.trans s3, s.free n3, e3⟩
  · rintro σ H' ⟨q, b, c, rfl, s, nq, eq⟩
    walk_at "rd"
    rw [hlen, mixF_all] at eq
    exact k q H' s nq eq
def sp_mixed_rows (Z : Ctx) : Sp := spMix
abbrev r_mixed_rows (Z : Ctx) : TS := (tSeq (tIfS (tTest (tOp rNe (tCB (rLenG Z.K) (tCons (tVar 0) tNil)) (tCB (rLenG Z.K) (tCons (tVar 1) tNil)))) tNever tNext) (tSeq (tFor (iRng1 (tCons (tCB (rLenG Z.K) (tCons (tVar 1) tNil)) tNil)) (gName 3) (tIfS (tNot (tB (tCall (sp_whole_list Z) [] E0 (tCons (tOp (rIxG Z.K) (tVar 1) (tVar 3)) (tCons (tVar 2) tNil))))) tNever tNext)) (tSeq (tAsg (tOp rRep (tLst (tCons (tC (.int 0)) tNil)) (tVar 2)) (gName 4)) (tSeq (tFor (iRng1 (tCons (tCB (rLenG Z.K) (tCons (tVar 1) tNil)) tNil)) (gName 3) (tIfS (tTest (tOp rNe (tOp (rIxG Z.K) (tVar 0) (tVar 3)) (tC (.int 0)))) (tAsg (tLc (iRng1 (tCons (tVar 2) tNil)) (gName 5) tYes (tOp rAddI (tOp (rIxG Z.K) (tVar 4) (tVar 5)) (tOp rMulI (tOp (rIxG Z.K) (tVar 0) (tVar 3)) (tOp (rIxG Z.K) (tOp (rIxG Z.K) (tVar 1) (tVar 3)) (tVar 5)))) [5]) (gName 4)) tNext)) (tRet (tVar 4))))))
theorem ln_mixed_rows : sp_mixed_rows Z vs H Q E → vs.length = 3 := by rintro ⟨_, _, _, _, _, rfl, _⟩; rfl
abbrev nm_mixed_rows : List Str := ["amounts", "rows", "width", "place", "total", "at"]
theorem rd_mixed_rows (h : sp_mixed_rows Z vs H Q E) : r_mixed_rows Z (ends Q) (L2.start nm_mixed_rows vs) H := by
  obtain ⟨v, u, w, a, m, rfl, hr, ⟨l, xs, rfl, hl, ha⟩, hw, ham, hw1, hm1, hc, k⟩ := h
  obtain ⟨p, rfl, hp⟩ := rep_row.mp hr
  show r_mixed_rows Z (ends Q) [some (.ref p), some (.ref l), some (.int w), none, none, none] H
  unfold r_mixed_rows ends
  have hlen := ha.len
  walk_at "rd"
  rw [lenV, hlen, ham]
  refine w_ite (fun h => absurd rfl h) (fun _ => ?_)
  walk_at "rd"
  refine forR (n := xs.length) (fun i σ H' => ∃ b, σ = [some (.ref p), some (.ref l), some (.int w), b, none, none] ∧ Same H H') ⟨_, rfl, .refl _⟩ ?_ ?_
  · rintro i σ H' hi ⟨b, rfl, s⟩
    obtain ⟨q1, h1, h2⟩ := mat_at ha (i := i) (by omega)
    have f1 := s _ _ hl
    show tIfS _ _ _ _ [some (.ref p), some (.ref l), some (.int w), some (.int (i : Int)), none, none] H'
    walk_at "rd"
    refine ⟨.ref q1, w, m.getD i [], rfl, rep_row_of (s _ _ h2), hw.get (by omega), hw1, fun H2 s2 => ?_⟩
    walk_at "rd"
    exact ⟨_, rfl, s.trans s2⟩
  rintro σ H' ⟨b, rfl, s0⟩
  walk_at "rd"
  refine ⟨by decide, fun l1 n1 => ?_⟩
  walk_at "rd"
  refine w_rep upd_same (by omega) fun p2 n2 => ?_
  have s2 := s0.trans ((same_new (o := .lst [.int 0]) n1).trans (same_new (o := .lst ((List.replicate w (0 : Int)).map V.int)) n2))
  have hl2 := s2 _ _ hl
  walk_at "rd"
  refine forR (n := xs.length) (fun i σ H' => ∃ q b c, σ = [some (.ref p), some (.ref l), some (.int w), b, some (.ref q), c] ∧ Same H H' ∧ H q = none ∧ H' q = some (.lst ((mixF a m w i).map V.int))) ⟨p2, _, _, rfl, s2, s0.free (free_of n1 n2), ?_⟩ ?_ ?_
  · rw [mixF_zero]
    exact upd_same
  · rintro i σ H' hi ⟨q, b, c, rfl, s, nq, eq⟩
    obtain ⟨q1, h1, h2⟩ := mat_at ha (i := i) (by omega)
    show tIfS _ _ _ _ [some (.ref p), some (.ref l), some (.int w), some (.int (i : Int)), some (.ref q), c] H'
    have ga := at0_get (r := a) (i := i) (by omega)
    have wl := hw.get (i := i) (by omega)
    have f0 := s _ _ hp
    walk_at "rd"
    refine w_ite (fun h => ?_) (fun h => ?_)
    · walk_at "rd"
      refine lcRrT (n := w) (fun R h => by walk_at "rd"; exact h) (fun j => at0 (mixF a m w i) j + at0 a i * ent m i j) (by omega) (fun _ => rfl) (fun j H2 hj s2 R k2 => ?_) ?_
      · have f1 := s2 _ _ eq
        have f2 := s2 _ _ (s _ _ hp)
        have f3 := s2 _ _ (s _ _ hl)
        have f4 := s2 _ _ (s _ _ h2)
        have g1 := at0_get (r := mixF a m w i) (i := j) (by rw [mixF_length]; exact hj)
        have g2 := at0_get (r := m.getD i []) (i := j) (by omega)
        show tOp _ _ _ [some (.ref p), some (.ref l), some (.int w), some (.int (i : Int)), some (.ref q), some (.int (j : Int))] H2 R
        walk_at "rd"
        refine w_I (hc i j) ?_
        walk_at "rd"
        exact k2 _ (.refl _)
      · rw [← mixF_succ]
        intro p3 H3 s3 n3 e3
        walk_at "rd"
        exact ⟨p3, _, _, rfl, s.trans s3, s.free n3, e3⟩
    · walk_at "rd"
      refine ⟨q, _, _, rfl, s, nq, ?_⟩
      rw [mixF_skip (by omega)]
      exact eq
  · rintro σ H' ⟨q, b, c, rfl, s, nq, eq⟩
    walk_at "rd"
    rw [hlen, mixF_all] at eq
    exact k q H' s nq eq
def sp_dot_product (Z : Ctx) : Sp := fun vs H Q _ => ∃ v u, ∃ a b : Row, vs = [v, u] ∧ rep H v a ∧ rep H u b ∧ a.length = b.length ∧ b.length ≤ 1000 ∧ (∀ i, CMulG (at0 a i) (at0 b i)) ∧ Q (.int (sumTo b.length fun i => at0 a i * at0 b i)) H
abbrev r_dot_product (Z : Ctx) : TS := (tSeq (tIfS (tTest (tOp rNe (tCB (rLenG Z.K) (tCons (tVar 0) tNil)) (tCB (rLenG Z.K) (tCons (tVar 1) tNil)))) tNever tNext) (tSeq (tAsg (tC (.int 0)) (gName 2)) (tSeq (tFor (iRng1 (tCons (tCB (rLenG Z.K) (tCons (tVar 1) tNil)) tNil)) (gName 3) (tAug 2 (tOp rMulI (tOp (rIxG Z.K) (tVar 0) (tVar 3)) (tOp (rIxG Z.K) (tVar 1) (tVar 3))) (ipI fun i j => i + j))) (tRet (tVar 2)))))
theorem ln_dot_product : sp_dot_product Z vs H Q E → vs.length = 2 := by rintro ⟨_, _, _, _, rfl, _⟩; rfl
abbrev nm_dot_product : List Str := ["weights", "row", "total", "place"]
theorem rd_dot_product (h : sp_dot_product Z vs H Q E) : r_dot_product Z (ends Q) (L2.start nm_dot_product vs) H := by
  obtain ⟨v, u, a, b, rfl, ha, hb, hl, hz, hc, k⟩ := h
  obtain ⟨p, rfl, hp⟩ := rep_row.mp ha
  obtain ⟨q, rfl, hq⟩ := rep_row.mp hb
  show r_dot_product Z (ends Q) [some (.ref p), some (.ref q), none, none] H
  unfold r_dot_product ends
  walk_at "rd"
  rw [lenV, lenV, hl]
  refine w_ite (fun h => absurd rfl h) (fun _ => ?_)
  walk_at "rd"
  refine forR (n := (b.map V.int).length) (fun i σ H' => ∃ c, σ = [some (.ref p), some (.ref q), some (.int (sumTo i fun i => at0 a i * at0 b i)), c] ∧ H' = H) ⟨_, rfl, rfl⟩ ?_ ?_
  · rintro i σ H' hi ⟨c, rfl, rfl⟩
    rw [lenV] at hi
    have g1 := at0_get (r := a) (i := i) (by omega)
    have g2 := at0_get (r := b) (i := i) (by omega)
    show tAug _ _ _ _ [some (.ref p), some (.ref q), some (.int (sumTo i fun i => at0 a i * at0 b i)), some (.int (i : Int))] H'
    walk_at "rd"
    refine w_I (hc i) ?_
    walk_at "rd"
    exact ⟨_, rfl, rfl⟩
  · rintro σ H' ⟨c, rfl, rfl⟩
    walk_at "rd"
    rw [lenV]
    exact k
def addR (a b : Row) : Row := (List.range a.length).map fun i => at0 a i + at0 b i
def sp_added_rows (Z : Ctx) : Sp := fun vs H Q _ => ∃ v u, ∃ a b : Row, vs = [v, u] ∧ rep H v a ∧ rep H u b ∧ a.length = b.length ∧ b.length ≤ 1000 ∧ NewR H (addR a b) Q
abbrev r_added_rows (Z : Ctx) : TS := (tSeq (tIfS (tTest (tOp rNe (tCB (rLenG Z.K) (tCons (tVar 0) tNil)) (tCB (rLenG Z.K) (tCons (tVar 1) tNil)))) tNever tNext) (tRet (tLc (iRng1 (tCons (tCB (rLenG Z.K) (tCons (tVar 0) tNil)) tNil)) (gName 2) tYes (tOp rAddI (tOp (rIxG Z.K) (tVar 0) (tVar 2)) (tOp (rIxG Z.K) (tVar 1) (tVar 2))) [2])))
theorem ln_added_rows : sp_added_rows Z vs H Q E → vs.length = 2 := by rintro ⟨_, _, _, _, rfl, _⟩; rfl
abbrev nm_added_rows : List Str := ["one", "other", "place"]
theorem rd_added_rows (h : sp_added_rows Z vs H Q E) : r_added_rows Z (ends Q) (L2.start nm_added_rows vs) H := by
  obtain ⟨v, u, a, b, rfl, ha, hb, hl, hz, k⟩ := h
  obtain ⟨p, rfl, hp⟩ := rep_row.mp ha
  obtain ⟨q, rfl, hq⟩ := rep_row.mp hb
  show r_added_rows Z (ends Q) [some (.ref p), some (.ref q), none] H
  unfold r_added_rows ends
  walk_at "rd"
  rw [lenV, lenV, hl]
  refine w_ite (fun h => absurd rfl h) (fun _ => ?_)
  walk_at "rd"
  refine lcRrT (n := (a.map V.int).length) (fun R h => by walk_at "rd"; exact h) (fun i => at0 a i + at0 b i) (by rw [lenV]; omega) (fun _ => rfl) (fun i H1 hi s R k1 => ?_) ?_
  · rw [lenV] at hi
    have h1 := s _ _ hp
    have h2 := s _ _ hq
    have g1 := at0_get (r := a) (i := i) hi
    have g2 := at0_get (r := b) (i := i) (by omega)
    show tOp _ _ _ [some (.ref p), some (.ref q), some (.int (i : Int))] H1 R
    walk_at "rd"
    exact k1 _ (.refl _)
  · rw [lenV]
    exact k
/-- the amounts told give the row -/
def sp_law_parts_told (Z : Ctx) : Sp := fun vs H Q _ => ∃ v u x, ∃ a : Row, ∃ m : Mat, ∃ r : Row, vs = [v, u, x] ∧ rep H v a ∧ rep H u m ∧ rep H x r ∧ Wid r.length m ∧ a.length = m.length ∧ r.length ≤ 1000 ∧ m.length ≤ 1000 ∧ (∀ i j, CMulG (at0 a i) (ent m i j)) ∧ mixM a m r.length = r ∧ ∀ H', Same H H' → Q (.bl true) H'
abbrev r_law_parts_told (Z : Ctx) : TS := (tSeq (tIfS (tNot (tB (tCall (sp_law_is_row Z) [] E0 (tCons (tVar 0) (tCons (tCB (rLenG Z.K) (tCons (tVar 1) tNil)) tNil))))) (tRet (tC (.bl false))) tNext) (tRet (tOp (rEqD Z.K) (tCall (sp_law_mixed Z) [] E0 (tCons (tVar 0) (tCons (tVar 1) (tCons (tCB (rLenG Z.K) (tCons (tVar 2) tNil)) tNil)))) (tVar 2))))
theorem ln_law_parts_told : sp_law_parts_told Z vs H Q E → vs.length = 3 := by rintro ⟨_, _, _, _, _, _, rfl, _⟩; rfl
abbrev nm_law_parts_told : List Str := ["told", "rows", "row"]
theorem rd_law_parts_told (h : sp_law_parts_told Z vs H Q E) : r_law_parts_told Z (ends Q) (L2.start nm_law_parts_told vs) H := by
  obtain ⟨v, u, x, a, m, r, rfl, ha, hu, hx, hw, ham, hr1, hm1, hc, he, k⟩ := h
  have hu' := hu
  have hx' := hx
  obtain ⟨l, xs, rfl, hl, hxs⟩ := hu
  obtain ⟨p, rfl, hp⟩ := rep_row.mp hx
  have hlen := hxs.len
  show r_law_parts_told Z (ends Q) [some v, some (.ref l), some (.ref p)] H
  unfold r_law_parts_told ends
  walk_at "rd"
  refine ⟨v, xs.length, a, rfl, ha, by omega, ?_⟩
  walk_at "rd"
  refine ⟨v, .ref l, r.length, a, m, by rw [lenV]; rfl, ha, hu', hw, ham, hr1, hm1, hc, fun p1 H1 s1 n1 e1 => ?_⟩
  have hp1 := s1 _ _ hp
  walk_at "rd"
  refine w_eqD (α := Row) (rep_row_of e1) (rep_row_of hp1) ?_
  rw [he, decide_eq_true rfl]
  exact k _ s1
end
end G
end
section
set_option Elab.async false
set_option linter.all false
set_option maxRecDepth 100000
namespace G
open PySem L2 PyProof.Rows
local macro_rules | `(tactic| walk_at "rd") => `(tactic| repeat (first
  | (with_reducible refine v_seq ?_)
  | (with_reducible refine v_asg ?_)
  | (with_reducible refine w_cons ?_)
  | (with_reducible refine w_nil ?_)
  | (with_reducible refine w_op ?_)
  | (with_reducible refine w_c ?_)
  | (with_reducible refine w_I0 ?_)
  | (with_reducible refine w_cb ?_)
  | (with_reducible refine w_call ?_)
  | (with_reducible refine v_ret ?_)
  | (with_reducible refine v_next ?_)
  | (with_reducible refine w_ixR (by assumption) (by assumption) ?_)
  | (with_reducible refine w_ix (by assumption) (by assumption) ?_)
  | (with_reducible refine w_test ?_)
  | (with_reducible refine w_tB ?_)
  | (with_reducible refine w_and ?_)
  | (with_reducible refine w_or ?_)
  | (with_reducible refine w_not ?_)
  | (with_reducible refine w_ifE ?_)
  | (with_reducible refine v_ifS ?_)
  | (with_reducible refine w_tt ?_)
  | (with_reducible refine w_ff ?_)
  | (with_reducible refine w_eqI ?_)
  | (with_reducible refine w_neI ?_)
  | (with_reducible refine w_U ?_)
  | (with_reducible refine w_un ?_)
  | (with_reducible refine w_len (by assumption) ?_)
  | (with_reducible refine w_abs ?_)
  | (with_reducible refine w_int ?_)
  | (with_reducible refine w_isN0 ?_)
  | (with_reducible refine w_isN1 (by assumption) ?_)
  | (with_reducible refine w_isN1 ne_in ?_)
  | (with_reducible refine w_isN1 ne_rn ?_)
  | (with_reducible refine w_notN0 ?_)
  | (with_reducible refine w_notN1 ne_in ?_)
  | (with_reducible refine w_notN1 ne_rn ?_)
  | (with_reducible refine v_lst ?_)
  | (with_reducible refine v_tup ?_)
  | (with_reducible refine w_notN1 (by assumption) ?_)
  | (with_reducible refine v_drop ?_)
  | (with_reducible refine w_bm ?_)
  | (with_reducible refine v_for ?_)
  | (with_reducible refine v_rng1 ?_)
  | (with_reducible refine v_rng2 ?_)
  | (with_reducible refine v_list ?_)
  | (with_reducible refine w_sub ?_)
  | (with_reducible refine v_ip ?_)
  | (with_reducible refine v_augS ?_)
  | (with_reducible refine v_retN ?_)
  | (with_reducible refine w_yes ?_)
  | (with_reducible refine tv_0 ?_)
  | (with_reducible refine nv_0 ?_)
  | (with_reducible refine av_0 ?_)
  | (with_reducible refine tv_1 ?_)
  | (with_reducible refine nv_1 ?_)
  | (with_reducible refine av_1 ?_)
  | (with_reducible refine tv_2 ?_)
  | (with_reducible refine nv_2 ?_)
  | (with_reducible refine av_2 ?_)
  | (with_reducible refine tv_3 ?_)
  | (with_reducible refine nv_3 ?_)
  | (with_reducible refine av_3 ?_)
  | (with_reducible refine tv_4 ?_)
  | (with_reducible refine nv_4 ?_)
  | (with_reducible refine av_4 ?_)
  | (with_reducible refine tv_5 ?_)
  | (with_reducible refine nv_5 ?_)
  | (with_reducible refine av_5 ?_)
  | (with_reducible refine tv_6 ?_)
  | (with_reducible refine nv_6 ?_)
  | (with_reducible refine av_6 ?_)
  | (with_reducible refine tv_7 ?_)
  | (with_reducible refine nv_7 ?_)
  | (with_reducible refine av_7 ?_)
  | (with_reducible refine tv_8 ?_)
  | (with_reducible refine nv_8 ?_)
  | (with_reducible refine av_8 ?_)
  | (with_reducible refine tv_9 ?_)
  | (with_reducible refine nv_9 ?_)
  | (with_reducible refine av_9 ?_)
  | (with_reducible refine tv_10 ?_)
  | (with_reducible refine nv_10 ?_)
  | (with_reducible refine av_10 ?_)
  | (with_reducible refine tv_11 ?_)
  | (with_reducible refine nv_11 ?_)
  | (with_reducible refine av_11 ?_)
  | (with_reducible refine tv_12 ?_)
  | (with_reducible refine nv_12 ?_)
  | (with_reducible refine av_12 ?_)
  | (with_reducible refine tv_13 ?_)
  | (with_reducible refine nv_13 ?_)
  | (with_reducible refine av_13 ?_)
  | (with_reducible refine tv_14 ?_)
  | (with_reducible refine nv_14 ?_)
  | (with_reducible refine av_14 ?_)
  | (with_reducible refine tv_15 ?_)
  | (with_reducible refine nv_15 ?_)
  | (with_reducible refine av_15 ?_)
  | (with_reducible refine ⟨_, rfl, ⟨_, SqL.of (by assumption)⟩, ?_⟩)
  | (with_reducible refine ⟨_, rfl, (by omega), (by omega), ?_⟩)
  | (with_reducible refine ⟨w_tyL (by assumption), ?_⟩)
  | (with_reducible refine w_isiII ?_)
  | (with_reducible refine w_isiIB ?_)
  | (with_reducible refine w_isiBB ?_)
  | (with_reducible refine w_isiBI ?_)
  | (with_reducible refine w_isiNL ?_)
  | (with_reducible refine w_isiLL (by assumption) ?_)
  | (with_reducible refine v_sl ?_)
  | (with_reducible refine w_nff ?_)
  | (with_reducible refine w_ntt ?_)
  | (with_reducible refine v_chain ?_)
  | (with_reducible refine v_andV ?_)
  | (with_reducible refine v_orV ?_)
  | (with_reducible refine v_notV ?_)
  | (with_reducible refine v_noP ?_)
  | (with_reducible refine v_part ?_)
  | (with_reducible refine v_fld ?_)
  | (with_reducible refine v_sfld ?_)
  | (with_reducible refine ⟨_, (rfl : V.bl _ = V.bl _), ?_⟩)
  | (with_reducible refine ⟨_, (rfl : V.ref _ = V.ref _), ?_⟩)
  | (with_reducible refine ⟨_, (rfl : [V.int _] = [V.int _]), ?_⟩)
  | (with_reducible refine ⟨_, (rfl : V.int _ = V.int _), ?_⟩)
  | (with_reducible refine ⟨⟨_, SqL.of (by assumption)⟩, ?_⟩)
  | (with_reducible refine ⟨(by (first | omega | (rw [lenV]; omega)) : -(2 ^ 62) ≤ _), (by first | omega | (rw [lenV]; omega)), ?_⟩)
  ))
/-! ### the purse -/
def PurseAt (H : Hp) (p : Addr) : Prop := ∃ a b c : Int, H p = some (.lst [.int a, .int b, .int c])
theorem PurseAt.dom {H : Hp} {p : Addr} (h : PurseAt H p) : dom H p := by
  obtain ⟨a, b, c, e⟩ := h
  exact dom_of e
theorem PurseAt.ne {H H0 : Hp} {p l : Addr} (h : PurseAt H p) (n : H l = none) : l ≠ p := fun z => h.dom (z ▸ n)
theorem PurseAt.same {H H' : Hp} {p : Addr} (h : PurseAt H p) (s : Same H H') : PurseAt H' p := by
  obtain ⟨a, b, c, e⟩ := h
  exact ⟨a, b, c, s _ _ e⟩
theorem PurseAt.upd {H : Hp} {p l : Addr} {o : HO} (h : PurseAt H p) (n : l ≠ p) : PurseAt (upd H l o) p := by
  obtain ⟨a, b, c, e⟩ := h
  exact ⟨a, b, c, by rw [upd_ne n.symm]; exact e⟩
theorem Chg.mut {H H1 : Hp} {p l : Addr} {o : HO} (c : Chg p H H1) (n : H l = none) : Chg p H (upd H1 l o) := fun a u h e => by
  rw [upd_ne (ne_of_none e n)]
  exact c a u h e
theorem Chg.fresh {H H1 : Hp} {p l : Addr} (c : Chg p H H1) (hp : PurseAt H1 p) (n : H1 l = none) : H l = none := by
  have z : l ≠ p := hp.ne (H0 := H) n
  cases e : H l with
  | none => rfl
  | some o => rw [c l o z e] at n; cases n
section
variable {σ : L2.St} {H : Hp} {Q : VK} {K : PySem.W.Frag} {wi : TI} {te : TE} {vs : List Nat} {j : Nat} {p : Addr} {P : Int → Prop}
structure Lcp (H : Hp) (p : Addr) (P : Int → Prop) (D : Addr) (i : Nat) (H' : Hp) : Prop where
  c : Chg p H H'
  pu : PurseAt H' p
  n : H D = none
  l : ∃ r : Row, H' D = some (.lst (r.map V.int)) ∧ r.length = i ∧ ∀ x ∈ r, P x
theorem Lcp.snoc {D : Addr} {i : Nat} {H1 H2 : Hp} {z : Int} (hp : PurseAt H p) (L : Lcp H p P D i H1) (hi : i < 1000000) (hz : P z) (c : Chg p H1 H2) (pu : PurseAt H2 p) :
    ∃ acc, H2 D = some (.lst acc) ∧ acc.length < sizeLine ∧ Lcp H p P D (i + 1) (upd H2 D (.lst (acc ++ [V.int z]))) := by
  obtain ⟨r, e, hl, h⟩ := L.l
  have n := hp.ne (H0 := H) L.n
  refine ⟨_, c _ _ n e, ?_, ⟨(L.c.trans c).mut L.n, pu.upd n, L.n, r ++ [z], ?_, ?_, ?_⟩⟩
  · rw [lenV, hl]
    exact Nat.lt_of_lt_of_le hi (by decide)
  · rw [List.map_append]
    exact upd_same
  · rw [List.length_append, hl]
    rfl
  · intro x hx
    rcases List.mem_append.mp hx with hx | hx
    · exact h x hx
    · rw [List.mem_singleton.mp hx]
      exact hz
/-- a new row by draws -/
def NewP (p : Addr) (n : Nat) (P : Int → Prop) (H : Hp) (Q : VK) : Prop := ∀ (D : Addr) (r : Row) (H' : Hp), Chg p H H' → PurseAt H' p → H D = none → H' D = some (.lst (r.map V.int)) → r.length = n → (∀ x ∈ r, P x) → Q (.ref D) H'
theorem lcRP {n : Nat} (hi : ∀ R : It → Hp → Prop, R (Itr 0 n) H → wi σ H R) (hp : PurseAt H p) (hz : n ≤ 1000000) (hw : ∀ x, wipe ((wipe σ vs).set j (some x)) vs = wipe σ vs)
    (he : ∀ (i : Nat) H1, i < n → Chg p H H1 → PurseAt H1 p → ∀ R : VK, (∀ z H2, P z → Chg p H1 H2 → PurseAt H2 p → R (.int z) H2) → te ((wipe σ vs).set j (some (.int (i : Int)))) H1 R)
    (hd : NewP p n P H Q) : tLc wi (gName j) tYes te vs σ H Q := v_lc (hi _ fun D hD =>
  lc_range (lo := 0) (n := n) (Lcp H p P D) ⟨(Chg.refl H).mut hD, hp.upd (hp.ne (H0 := H) hD), hD, [], upd_same, rfl, fun _ h => by cases h⟩ (fun i H1 hi L => by
    refine ⟨hw _, ?_⟩
    have e0 : (0 : Int) + (i : Int) = (i : Int) := Int.zero_add _
    rw [e0]
    refine w_yes ?_
    refine iteT ?_
    exact he i H1 hi L.c L.pu _ fun z H2 hz c pu => L.snoc hp (by omega) hz c pu) fun H' L => by
    obtain ⟨r, e, hl, h⟩ := L.l
    exact hd D r H' L.c L.pu L.n e hl h)
theorem lcLP {q : Addr} {xs : List V} (hi : ∀ R : It → Hp → Prop, R (Itl K q) H → wi σ H R) (hp : PurseAt H p) (hx : H q = some (.lst xs)) (hq : q ≠ p) (hz : xs.length ≤ 1000000) (hw : ∀ x, wipe ((wipe σ vs).set j (some x)) vs = wipe σ vs)
    (he : ∀ (i : Nat) x H1, xs[i]? = some x → Chg p H H1 → PurseAt H1 p → ∀ R : VK, (∀ z H2, P z → Chg p H1 H2 → PurseAt H2 p → R (.int z) H2) → te ((wipe σ vs).set j (some x)) H1 R)
    (hd : NewP p xs.length P H Q) : tLc wi (gName j) tYes te vs σ H Q := v_lc (hi _ fun D hD =>
  lc_list (xs := xs) (Lcp H p P D) ⟨(Chg.refl H).mut hD, hp.upd (hp.ne (H0 := H) hD), hD, [], upd_same, rfl, fun _ h => by cases h⟩ (fun i H1 _ L => SqL.of (L.c _ _ hq hx)) (fun i x H1 hi L => by
    refine ⟨hw _, ?_⟩
    refine w_yes ?_
    refine iteT ?_
    exact he i x H1 hi L.c L.pu _ fun z H2 hz c pu => L.snoc hp (by have := (List.getElem?_eq_some_iff.mp hi).1; omega) hz c pu) fun H' L => by
    obtain ⟨r, e, hl, h⟩ := L.l
    exact hd D r H' L.c L.pu L.n e hl h)
/-- [e for x in a list made there] -/
theorem lcLrS {G : Addr → Hp → Prop} (xs : List V) (hi : ∀ R : It → Hp → Prop, (∀ q H1, G q H1 → R (Itl K q) H1) → wi σ H R) (f : Nat → Int) (hx : ∀ q H1, G q H1 → SqL K H1 q xs) (hz : xs.length ≤ 1000000) (hw : ∀ x, wipe ((wipe σ vs).set j (some x)) vs = wipe σ vs)
    (he : ∀ (i : Nat) x H1, xs[i]? = some x → ∀ R : VK, (∀ H2, Same H1 H2 → R (.int (f i)) H2) → te ((wipe σ vs).set j (some x)) H1 R)
    (hd : ∀ q H1, G q H1 → NewR H1 ((List.range xs.length).map f) Q) : tLc wi (gName j) tYes te vs σ H Q := v_lc (hi _ fun q H1 g => lcLr f (hx q H1 g) hz hw (fun i x H2 hi _ R k => he i x H2 hi R k) (hd q H1 g))
theorem w_setAt {q : Addr} {xs : List V} {v : V} {R : Hp → Prop} (i : Nat) (z : Int) (hz : z = (i : Int)) (h : H q = some (.lst xs)) (e : i < xs.length) (r : R (upd H q (.lst (xs.set i v)))) : rSetG (.ref q) (.int z) v H R := ⟨q, xs, i, rfl, by rw [hz], h, e, r⟩
end
section
variable {Z : Ctx} {vs : List V} {H : Hp} {Q : VK} {E : XK}
def sp_law_purse (Z : Ctx) : Sp := fun vs H Q _ => ∃ p, ∃ n : Nat, ∃ z : Int, ∃ r : Row, vs = [.ref p, .int z] ∧ z = (n : Int) ∧ SqL Z.K H p (r.map V.int) ∧ r.length ≤ 1000 ∧ ∀ q H', Same H H' → H q = none → PurseAt H' q → Q (.ref q) H'
abbrev r_law_purse (Z : Ctx) : TS := (tSeq (tAsg (tIf (tTest (tOp rLtI (tVar 1) (tCB (rLenG Z.K) (tCons (tVar 0) tNil)))) (tCB rIntG (tCons (tOp (rIxG Z.K) (tVar 0) (tVar 1)) tNil)) (tOp rMulI (tC (.int 31)) (tCB (rSum Z.K) (tCons (tLc (iList Z.K (tSl (rSlL Z.K) (tVar 0) tNoPart (tPart (tC (.int 4))))) (gName 3) tYes (tCB rIntG (tCons (tVar 3) tNil)) [3]) tNil)))) (gName 2)) (tSeq (tAsg (tOp rAddI (tOp rMulI (tC (.int 2)) (tCB rAbsG (tCons (tVar 2) tNil))) (tIf (tTest (tOp rLtI (tVar 2) (tC (.int 0)))) (tC (.int 1)) (tC (.int 0)))) (gName 4)) (tRet (tLst (tCons (tIf (tTest (tOp rGeI (tVar 4) (tOp rPowI (tC (.int 10)) (tC (.int 18))))) (tVar 4) (tC (.int 0))) (tCons (tOp rModI (tCB rIntG (tCons (tOp rAddI (tOp rAddI (tVar 4) (tOp rMulI (tVar 1) (tC (.int 104729)))) (tC (.int 12345))) tNil)) (tC (.int 2147483629))) (tCons (tVar 1) tNil)))))))
theorem ln_law_purse : sp_law_purse Z vs H Q E → vs.length = 2 := by rintro ⟨_, _, _, _, rfl, _⟩; rfl
abbrev nm_law_purse : List Str := ["script", "at", "cell", "one", "size"]
theorem cpow (j : Int) (h1 : 0 ≤ j) (h2 : j ≤ 1000000) : CPow 10 j := ⟨h1, h2, by decide⟩
theorem bdc {i : Int} (h : i.natAbs < 2 ^ 64) : Bd 64 i := h
theorem rd_law_purse (h : sp_law_purse Z vs H Q E) : r_law_purse Z (ends Q) (L2.start nm_law_purse vs) H := by
  obtain ⟨p, n, z, r, rfl, rfl, hs, hl, k⟩ := h
  show r_law_purse Z (ends Q) [some (.ref p), some (.int (n : Int)), none, none, none] H
  unfold r_law_purse ends
  walk_at "rd"
  refine ⟨p, _, rfl, .inl hs, ?_⟩
  walk_at "rd"
  refine w_ite (fun h => ?_) (fun h => ?_)
  · rw [lenV] at h
    have g := at0_get (r := r) (i := n) (by omega)
    walk_at "rd"
    refine ⟨p, _, n, .int (at0 r n), rfl, rfl, hs, by rw [List.getElem?_map, g]; rfl, ?_⟩
    walk_at "rd"
    generalize at0 r n = c
    refine w_I (.l (bdc (by decide))) ?_
    walk_at "rd"
    refine w_ite (fun h => ?_) (fun h => ?_) <;>
    · walk_at "rd"
      refine w_I (cpow _ (by decide) (by decide)) ?_
      walk_at "rd"
      refine w_ite (fun h => ?_) (fun h => ?_) <;>
      · walk_at "rd"
        refine w_I (.r (bdc (by decide))) ?_
        walk_at "rd"
        refine w_I (by decide) ?_
        walk_at "rd"
        exact ⟨small _ (by simp), fun q hq => k q _ (same_new hq) hq ⟨_, _, _, upd_same⟩⟩
  · walk_at "rd"
    refine lcLrS (K := Z.K) (G := fun q H1 => H q = none ∧ H1 = upd H q (.lst (cutV (r.map V.int) none (some 4)))) (cutV (r.map V.int) none (some 4)) (fun R h => ?_) (fun i => at0 (r.take 4) i) (fun q H1 g => ?_) ?_ (fun _ => rfl) (fun i x H1 hi R k => ?_) (fun q H1 g => ?_)
    · walk_at "rd"
      refine ⟨p, _, rfl, hs, fun q hq => ?_⟩
      exact ⟨q, rfl, ⟨_, SqL.of upd_same⟩, h q _ ⟨hq, rfl⟩⟩
    · obtain ⟨_, rfl⟩ := g
      exact SqL.of upd_same
    · rw [show (some (4 : Int)) = some ((4 : Nat) : Int) from rfl, cut_to, List.length_take]
      omega
    · rw [show (some (4 : Int)) = some ((4 : Nat) : Int) from rfl, cut_to, ← List.map_take] at hi
      obtain ⟨y, hy, rfl⟩ := row_at hi
      obtain rfl := at0_some hy
      show tCB _ _ [some (.ref p), some (.int (n : Int)), none, some (.int (at0 (r.take 4) i)), none] H1 R
      walk_at "rd"
      exact k _ (.refl _)
    · obtain ⟨hq, rfl⟩ := g
      intro q2 H2 s2 n2 e2
      walk_at "rd"
      refine w_sum e2 ?_
      generalize (List.map (fun i => at0 (r.take 4) i) _ : Row).sum = c
      walk_at "rd"
      refine w_I (.l (bdc (by decide))) ?_
      walk_at "rd"
      generalize 31 * c = c
      refine w_I (.l (bdc (by decide))) ?_
      walk_at "rd"
      refine w_ite (fun h => ?_) (fun h => ?_) <;>
      · walk_at "rd"
        refine w_I (cpow _ (by decide) (by decide)) ?_
        walk_at "rd"
        refine w_ite (fun h => ?_) (fun h => ?_) <;>
        · walk_at "rd"
          refine w_I (.r (bdc (by decide))) ?_
          walk_at "rd"
          refine w_I (by decide) ?_
          walk_at "rd"
          exact ⟨small _ (by simp), fun q3 hq3 => k q3 _ (((same_new hq).trans s2).trans (same_new hq3)) ((same_new hq).free (s2.free hq3)) ⟨_, _, _, upd_same⟩⟩
/-- a draw -/
def sp_law_draw (Z : Ctx) : Sp := fun vs H Q _ => ∃ p, ∃ n : Int, vs = [.ref p, .int n] ∧ PurseAt H p ∧ 0 < n ∧ ∀ (z : Int) H', Chg p H H' → PurseAt H' p → 0 ≤ z → z < n → Q (.int z) H'
abbrev r_law_draw (Z : Ctx) : TS := (tSeq (tIfS (tTest (tOp rGtI (tOp (rIxG Z.K) (tVar 0) (tC (.int 0))) (tC (.int 0)))) (tSeq (tAsg (tOp rModI (tCB rIntG (tCons (tOp (rIxG Z.K) (tVar 0) (tC (.int 0))) tNil)) (tVar 1)) (gName 2)) (tSeq (tAsg (tOp rDivI (tOp (rIxG Z.K) (tVar 0) (tC (.int 0))) (tVar 1)) (gSub (tVar 0) (tC (.int 0)) rSetG)) (tRet (tVar 2)))) tNext) (tSeq (tAugS (tVar 0) (tC (.int 2)) (tC (.int 1)) (rIxG Z.K) (ipI fun i j => i + j) rSetG) (tSeq (tAsg (tOp rModI (tCB rIntG (tCons (tOp rAddI (tOp rMulI (tOp (rIxG Z.K) (tVar 0) (tC (.int 1))) (tC (.int 48271))) (tOp rMulI (tOp (rIxG Z.K) (tVar 0) (tC (.int 2))) (tC (.int 69621)))) tNil)) (tC (.int 2147483647))) (gSub (tVar 0) (tC (.int 1)) rSetG)) (tRet (tOp rModI (tOp rDivI (tOp rModI (tCB rIntG (tCons (tOp rAddI (tOp rMulI (tOp (rIxG Z.K) (tVar 0) (tC (.int 1))) (tC (.int 16807))) (tOp rMulI (tOp (rIxG Z.K) (tVar 0) (tC (.int 2))) (tC (.int 7919)))) tNil)) (tC (.int 2147483629))) (tC (.int 8))) (tVar 1))))))
theorem ln_law_draw : sp_law_draw Z vs H Q E → vs.length = 2 := by rintro ⟨_, _, rfl, _⟩; rfl
abbrev nm_law_draw : List Str := ["purse", "many", "found"]
theorem rd_law_draw (h : sp_law_draw Z vs H Q E) : r_law_draw Z (ends Q) (L2.start nm_law_draw vs) H := by
  obtain ⟨p, n, rfl, ⟨a, b, c, hp⟩, hn, k⟩ := h
  have hn0 : n ≠ 0 := by omega
  show r_law_draw Z (ends Q) [some (.ref p), some (.int n), none] H
  unfold r_law_draw ends
  walk_at "rd"
  refine w_ixAt 0 0 rfl hp rfl ?_
  walk_at "rd"
  refine w_ite (fun h => ?_) (fun h => ?_)
  · walk_at "rd"
    refine w_ixAt 0 0 rfl hp rfl ?_
    walk_at "rd"
    refine w_I hn0 ?_
    walk_at "rd"
    refine w_ixAt 0 0 rfl hp rfl ?_
    walk_at "rd"
    refine w_I hn0 ?_
    walk_at "rd"
    refine w_setAt 0 0 rfl hp (by simp) ?_
    walk_at "rd"
    exact k _ _ chg_upd ⟨_, _, _, upd_same⟩ (Int.fmod_nonneg_of_pos _ hn) (Int.fmod_lt_of_pos _ hn)
  · walk_at "rd"
    refine w_ixAt 2 2 rfl hp rfl ?_
    walk_at "rd"
    refine w_setAt 2 2 rfl hp (by simp) ?_
    have c1 : Chg p H (upd H p (.lst ([V.int a, .int b, .int c].set 2 (.int (c + 1))))) := chg_upd
    have h1 : (upd H p (.lst ([V.int a, .int b, .int c].set 2 (.int (c + 1))))) p = some (.lst [V.int a, .int b, .int (c + 1)]) := upd_same
    generalize upd H p (.lst ([V.int a, .int b, .int c].set 2 (.int (c + 1)))) = H1 at c1 h1
    walk_at "rd"
    refine w_ixAt 1 1 rfl h1 rfl ?_
    walk_at "rd"
    refine w_I (.r (bdc (by decide))) ?_
    walk_at "rd"
    refine w_ixAt 2 2 rfl h1 rfl ?_
    walk_at "rd"
    refine w_I (.r (bdc (by decide))) ?_
    walk_at "rd"
    refine w_I (by decide) ?_
    walk_at "rd"
    refine w_setAt 1 1 rfl h1 (by simp) ?_
    generalize Int.fmod _ _ = d
    have c2 : Chg p H (upd H1 p (.lst ([V.int a, .int b, .int (c + 1)].set 1 (.int d)))) := c1.trans chg_upd
    have h2 : (upd H1 p (.lst ([V.int a, .int b, .int (c + 1)].set 1 (.int d)))) p = some (.lst [V.int a, .int d, .int (c + 1)]) := upd_same
    generalize upd H1 p (.lst ([V.int a, .int b, .int (c + 1)].set 1 (.int d))) = H2 at c2 h2
    walk_at "rd"
    refine w_ixAt 1 1 rfl h2 rfl ?_
    walk_at "rd"
    refine w_I (.r (bdc (by decide))) ?_
    walk_at "rd"
    refine w_ixAt 2 2 rfl h2 rfl ?_
    walk_at "rd"
    refine w_I (.r (bdc (by decide))) ?_
    walk_at "rd"
    refine w_I (by decide) ?_
    walk_at "rd"
    refine w_I (by decide) ?_
    walk_at "rd"
    refine w_I hn0 ?_
    exact k _ _ c2 ⟨_, _, _, h2⟩ (Int.fmod_nonneg_of_pos _ hn) (Int.fmod_lt_of_pos _ hn)
end
end G
end
section
set_option Elab.async false
set_option linter.all false
set_option maxRecDepth 100000
namespace G
open PySem L2 PyProof.Rows
local macro_rules | `(tactic| walk_at "rd") => `(tactic| repeat (first
  | (with_reducible refine v_seq ?_)
  | (with_reducible refine v_asg ?_)
  | (with_reducible refine w_cons ?_)
  | (with_reducible refine w_nil ?_)
  | (with_reducible refine w_op ?_)
  | (with_reducible refine w_c ?_)
  | (with_reducible refine w_I0 ?_)
  | (with_reducible refine w_cb ?_)
  | (with_reducible refine w_call ?_)
  | (with_reducible refine v_ret ?_)
  | (with_reducible refine v_next ?_)
  | (with_reducible refine w_ixR (by assumption) (by assumption) ?_)
  | (with_reducible refine w_ix (by assumption) (by assumption) ?_)
  | (with_reducible refine w_test ?_)
  | (with_reducible refine w_tB ?_)
  | (with_reducible refine w_and ?_)
  | (with_reducible refine w_or ?_)
  | (with_reducible refine w_not ?_)
  | (with_reducible refine w_ifE ?_)
  | (with_reducible refine v_ifS ?_)
  | (with_reducible refine w_tt ?_)
  | (with_reducible refine w_ff ?_)
  | (with_reducible refine w_eqI ?_)
  | (with_reducible refine w_neI ?_)
  | (with_reducible refine w_U ?_)
  | (with_reducible refine w_un ?_)
  | (with_reducible refine w_len (by assumption) ?_)
  | (with_reducible refine w_abs ?_)
  | (with_reducible refine w_int ?_)
  | (with_reducible refine w_isN0 ?_)
  | (with_reducible refine w_isN1 (by assumption) ?_)
  | (with_reducible refine w_isN1 ne_in ?_)
  | (with_reducible refine w_isN1 ne_rn ?_)
  | (with_reducible refine w_notN0 ?_)
  | (with_reducible refine w_notN1 ne_in ?_)
  | (with_reducible refine w_notN1 ne_rn ?_)
  | (with_reducible refine v_lst ?_)
  | (with_reducible refine v_tup ?_)
  | (with_reducible refine w_notN1 (by assumption) ?_)
  | (with_reducible refine v_drop ?_)
  | (with_reducible refine w_bm ?_)
  | (with_reducible refine v_for ?_)
  | (with_reducible refine v_rng1 ?_)
  | (with_reducible refine v_rng2 ?_)
  | (with_reducible refine v_list ?_)
  | (with_reducible refine w_sub ?_)
  | (with_reducible refine v_ip ?_)
  | (with_reducible refine v_augS ?_)
  | (with_reducible refine v_retN ?_)
  | (with_reducible refine w_yes ?_)
  | (with_reducible refine tv_0 ?_)
  | (with_reducible refine nv_0 ?_)
  | (with_reducible refine av_0 ?_)
  | (with_reducible refine tv_1 ?_)
  | (with_reducible refine nv_1 ?_)
  | (with_reducible refine av_1 ?_)
  | (with_reducible refine tv_2 ?_)
  | (with_reducible refine nv_2 ?_)
  | (with_reducible refine av_2 ?_)
  | (with_reducible refine tv_3 ?_)
  | (with_reducible refine nv_3 ?_)
  | (with_reducible refine av_3 ?_)
  | (with_reducible refine tv_4 ?_)
  | (with_reducible refine nv_4 ?_)
  | (with_reducible refine av_4 ?_)
  | (with_reducible refine tv_5 ?_)
  | (with_reducible refine nv_5 ?_)
  | (with_reducible refine av_5 ?_)
  | (with_reducible refine tv_6 ?_)
  | (with_reducible refine nv_6 ?_)
  | (with_reducible refine av_6 ?_)
  | (with_reducible refine tv_7 ?_)
  | (with_reducible refine nv_7 ?_)
  | (with_reducible refine av_7 ?_)
  | (with_reducible refine tv_8 ?_)
  | (with_reducible refine nv_8 ?_)
  | (with_reducible refine av_8 ?_)
  | (with_reducible refine tv_9 ?_)
  | (with_reducible refine nv_9 ?_)
  | (with_reducible refine av_9 ?_)
  | (with_reducible refine tv_10 ?_)
  | (with_reducible refine nv_10 ?_)
  | (with_reducible refine av_10 ?_)
  | (with_reducible refine tv_11 ?_)
  | (with_reducible refine nv_11 ?_)
  | (with_reducible refine av_11 ?_)
  | (with_reducible refine tv_12 ?_)
  | (with_reducible refine nv_12 ?_)
  | (with_reducible refine av_12 ?_)
  | (with_reducible refine tv_13 ?_)
  | (with_reducible refine nv_13 ?_)
  | (with_reducible refine av_13 ?_)
  | (with_reducible refine tv_14 ?_)
  | (with_reducible refine nv_14 ?_)
  | (with_reducible refine av_14 ?_)
  | (with_reducible refine tv_15 ?_)
  | (with_reducible refine nv_15 ?_)
  | (with_reducible refine av_15 ?_)
  | (with_reducible refine ⟨_, rfl, ⟨_, SqL.of (by assumption)⟩, ?_⟩)
  | (with_reducible refine ⟨_, rfl, (by omega), (by omega), ?_⟩)
  | (with_reducible refine ⟨w_tyL (by assumption), ?_⟩)
  | (with_reducible refine w_isiII ?_)
  | (with_reducible refine w_isiIB ?_)
  | (with_reducible refine w_isiBB ?_)
  | (with_reducible refine w_isiBI ?_)
  | (with_reducible refine w_isiNL ?_)
  | (with_reducible refine w_isiLL (by assumption) ?_)
  | (with_reducible refine v_sl ?_)
  | (with_reducible refine w_nff ?_)
  | (with_reducible refine w_ntt ?_)
  | (with_reducible refine v_chain ?_)
  | (with_reducible refine v_andV ?_)
  | (with_reducible refine v_orV ?_)
  | (with_reducible refine v_notV ?_)
  | (with_reducible refine v_noP ?_)
  | (with_reducible refine v_part ?_)
  | (with_reducible refine v_fld ?_)
  | (with_reducible refine v_sfld ?_)
  | (with_reducible refine ⟨_, (rfl : V.bl _ = V.bl _), ?_⟩)
  | (with_reducible refine ⟨_, (rfl : V.ref _ = V.ref _), ?_⟩)
  | (with_reducible refine ⟨_, (rfl : [V.int _] = [V.int _]), ?_⟩)
  | (with_reducible refine ⟨_, (rfl : V.int _ = V.int _), ?_⟩)
  | (with_reducible refine ⟨⟨_, SqL.of (by assumption)⟩, ?_⟩)
  | (with_reducible refine ⟨(by (first | omega | (rw [lenV]; omega)) : -(2 ^ 62) ≤ _), (by first | omega | (rw [lenV]; omega)), ?_⟩)
  ))
section
variable {Z : Ctx} {vs : List V} {H : Hp} {Q : VK} {E : XK}
/-- not above 10^6 -/
def Sm (z : Int) : Prop := -1000000 ≤ z ∧ z ≤ 1000000
theorem ten6 : (10 : Int) ^ (6 : Int).toNat = 1000000 := by decide
theorem ten9 : (10 : Int) ^ (9 : Int).toNat = 1000000000 := by decide
theorem ten22 : (10 : Int) ^ (22 : Int).toNat = 10000000000000000000000 := by decide
theorem ten30 : (10 : Int) ^ (30 : Int).toNat = 1000000000000000000000000000000 := by decide
def sp_law_number (Z : Ctx) : Sp := fun vs H Q _ => ∃ p, vs = [.ref p] ∧ PurseAt H p ∧ ∀ (z : Int) H', Sm z → Chg p H H' → PurseAt H' p → Q (.int z) H'
abbrev r_law_number (Z : Ctx) : TS := (tSeq (tAsg (tCall (sp_law_draw Z) [] E0 (tCons (tVar 0) (tCons (tC (.int 8)) tNil))) (gName 1)) (tSeq (tIfS (tTest (tOp rEq (tVar 1) (tC (.int 0)))) (tRet (tOp rMulI (tOp rSubI (tC (.int 1)) (tOp rMulI (tC (.int 2)) (tCall (sp_law_draw Z) [] E0 (tCons (tVar 0) (tCons (tC (.int 2)) tNil))))) (tOp rSubI (tOp rPowI (tC (.int 10)) (tC (.int 6))) (tCall (sp_law_draw Z) [] E0 (tCons (tVar 0) (tCons (tC (.int 3)) tNil)))))) tNext) (tSeq (tIfS (tTest (tOp rEq (tVar 1) (tC (.int 1)))) (tRet (tOp rSubI (tCall (sp_law_draw Z) [] E0 (tCons (tVar 0) (tCons (tC (.int 25)) tNil))) (tC (.int 12)))) tNext) (tRet (tOp rSubI (tCall (sp_law_draw Z) [] E0 (tCons (tVar 0) (tCons (tC (.int 7)) tNil))) (tC (.int 3)))))))
theorem ln_law_number : sp_law_number Z vs H Q E → vs.length = 1 := by rintro ⟨_, rfl, _⟩; rfl
abbrev nm_law_number : List Str := ["purse", "kind"]
theorem rd_law_number (h : sp_law_number Z vs H Q E) : r_law_number Z (ends Q) (L2.start nm_law_number vs) H := by
  obtain ⟨p, rfl, hp, k⟩ := h
  show r_law_number Z (ends Q) [some (.ref p), none] H
  unfold r_law_number ends
  walk_at "rd"
  refine ⟨p, _, rfl, hp, by decide, fun z H1 c1 p1 l1 l2 => ?_⟩
  walk_at "rd"
  refine w_ite (fun h => ?_) (fun h => ?_)
  · walk_at "rd"
    refine ⟨p, _, rfl, p1, by decide, fun y H2 c2 p2 l3 l4 => ?_⟩
    refine w_I (.l (bdc (by decide))) ?_
    walk_at "rd"
    refine w_I (cpow _ (by decide) (by decide)) ?_
    walk_at "rd"
    refine ⟨p, _, rfl, p2, by decide, fun x H3 c3 p3 l5 l6 => ?_⟩
    walk_at "rd"
    have hy : y = 0 ∨ y = 1 := by omega
    rw [ten6]
    rcases hy with rfl | rfl
    · refine w_I (.l (bdc (by decide))) ?_
      refine k _ H3 ?_ ((c1.trans c2).trans c3) p3
      unfold Sm
      omega
    · refine w_I (.l (bdc (by decide))) ?_
      refine k _ H3 ?_ ((c1.trans c2).trans c3) p3
      unfold Sm
      omega
  · walk_at "rd"
    refine w_ite (fun h => ?_) (fun h => ?_)
    · walk_at "rd"
      refine ⟨p, _, rfl, p1, by decide, fun y H2 c2 p2 l3 l4 => ?_⟩
      walk_at "rd"
      refine k _ H2 ?_ (c1.trans c2) p2
      unfold Sm
      omega
    · walk_at "rd"
      refine ⟨p, _, rfl, p1, by decide, fun y H2 c2 p2 l3 l4 => ?_⟩
      walk_at "rd"
      refine k _ H2 ?_ (c1.trans c2) p2
      unfold Sm
      omega
def sp_law_row_drawn (Z : Ctx) : Sp := fun vs H Q _ => ∃ p, ∃ w : Nat, vs = [.ref p, .int (w : Int)] ∧ PurseAt H p ∧ w ≤ 1000 ∧ NewP p w Sm H Q
abbrev r_law_row_drawn (Z : Ctx) : TS := (tRet (tLc (iRng1 (tCons (tVar 1) tNil)) (gName 2) tYes (tCall (sp_law_number Z) [] E0 (tCons (tVar 0) tNil)) [2]))
theorem ln_law_row_drawn : sp_law_row_drawn Z vs H Q E → vs.length = 2 := by rintro ⟨_, _, rfl, _⟩; rfl
abbrev nm_law_row_drawn : List Str := ["purse", "width", "place"]
theorem rd_law_row_drawn (h : sp_law_row_drawn Z vs H Q E) : r_law_row_drawn Z (ends Q) (L2.start nm_law_row_drawn vs) H := by
  obtain ⟨p, w, rfl, hp, hw, k⟩ := h
  show r_law_row_drawn Z (ends Q) [some (.ref p), some (.int (w : Int)), none] H
  unfold r_law_row_drawn ends
  walk_at "rd"
  refine lcRP (n := w) (p := p) (P := Sm) (fun R h => by walk_at "rd"; exact h) hp (by omega) (fun _ => rfl) (fun i H1 hi c1 p1 R k1 => ?_) k
  show tCall _ _ _ _ [some (.ref p), some (.int (w : Int)), some (.int (i : Int))] H1 R
  walk_at "rd"
  exact ⟨p, rfl, p1, fun z H2 hz c2 p2 => k1 z H2 hz c2 p2⟩
/-- below 2^80 -/
def Fa (z : Int) : Prop := Bd 80 z
def sp_law_far_number (Z : Ctx) : Sp := fun vs H Q _ => ∃ p, vs = [.ref p] ∧ PurseAt H p ∧ ∀ (z : Int) H', Fa z → Chg p H H' → PurseAt H' p → Q (.int z) H'
abbrev r_law_far_number (Z : Ctx) : TS := (tSeq (tAsg (tCall (sp_law_draw Z) [] E0 (tCons (tVar 0) (tCons (tOp (rIxG Z.K) (tLst (tCons (tC (.int 4)) (tCons (tC (.int 100)) (tCons (tOp rPowI (tC (.int 10)) (tC (.int 9))) (tCons (tOp rPowI (tC (.int 10)) (tC (.int 22))) tNil))))) (tCall (sp_law_draw Z) [] E0 (tCons (tVar 0) (tCons (tC (.int 4)) tNil)))) tNil))) (gName 1)) (tRet (tIf (tTest (tOp rEq (tCall (sp_law_draw Z) [] E0 (tCons (tVar 0) (tCons (tC (.int 2)) tNil))) (tC (.int 0)))) (tVar 1) (tUn uNegI (tVar 1)))))
theorem ln_law_far_number : sp_law_far_number Z vs H Q E → vs.length = 1 := by rintro ⟨_, rfl, _⟩; rfl
abbrev nm_law_far_number : List Str := ["purse", "size"]
theorem rd_law_far_number (h : sp_law_far_number Z vs H Q E) : r_law_far_number Z (ends Q) (L2.start nm_law_far_number vs) H := by
  obtain ⟨p, rfl, hp, k⟩ := h
  show r_law_far_number Z (ends Q) [some (.ref p), none] H
  unfold r_law_far_number ends
  walk_at "rd"
  refine w_I (cpow _ (by decide) (by decide)) ?_
  walk_at "rd"
  refine w_I (cpow _ (by decide) (by decide)) ?_
  walk_at "rd"
  rw [ten9, ten22]
  refine ⟨small _ (by simp), fun l hl => ?_⟩
  walk_at "rd"
  refine ⟨p, _, rfl, hp.upd (hp.ne (H0 := H) hl), by decide, fun y H2 c2 p2 l3 l4 => ?_⟩
  have el := c2 _ _ (hp.ne (H0 := H) hl) upd_same
  have cc := ((Chg.refl H).mut hl (o := .lst [V.int 4, .int 100, .int 1000000000, .int 10000000000000000000000])).trans c2
  obtain ⟨r, rfl⟩ := Int.eq_ofNat_of_zero_le l3
  have hr : ∃ s : Int, [V.int 4, .int 100, .int 1000000000, .int 10000000000000000000000][r]? = some (.int s) ∧ 0 < s ∧ s ≤ 10000000000000000000000 := by
    have : r = 0 ∨ r = 1 ∨ r = 2 ∨ r = 3 := by omega
    rcases this with rfl | rfl | rfl | rfl
    · exact ⟨_, rfl, by decide, by decide⟩
    · exact ⟨_, rfl, by decide, by decide⟩
    · exact ⟨_, rfl, by decide, by decide⟩
    · exact ⟨_, rfl, by decide, by decide⟩
  obtain ⟨s, hs, s1, s2⟩ := hr
  refine w_ix el hs ?_
  walk_at "rd"
  refine ⟨p, _, rfl, p2, s1, fun y H3 c3 p3 l5 l6 => ?_⟩
  walk_at "rd"
  refine ⟨p, _, rfl, p3, by decide, fun x H4 c4 p4 l7 l8 => ?_⟩
  walk_at "rd"
  have e80 : (2 : Nat) ^ 80 = 1208925819614629174706176 := by decide
  refine w_ite (fun h => ?_) (fun h => ?_)
  · walk_at "rd"
    refine k _ H4 ?_ ((cc.trans c3).trans c4) p4
    unfold Fa Bd
    omega
  · walk_at "rd"
    refine k _ H4 ?_ ((cc.trans c3).trans c4) p4
    unfold Fa Bd
    omega
/-- a new list by draws, its items apart from the purse and from itself -/
def NewPL (p : Addr) (P : Mat → Prop) (H : Hp) (Q : VK) : Prop := ∀ (D : Addr) (xs : List V) (m : Mat) (H' : Hp), Chg p H H' → PurseAt H' p → H D = none → H' D = some (.lst xs) → All2 (rep (off H' (wth (fun a => a = p) D))) xs m → P m → Q (.ref D) H'
theorem erase_perm0 : ∀ {m : Mat} {i : Nat}, i < m.length → (m.getD i [] :: m.eraseIdx i).Perm m
  | [], _, h => by simp at h
  | a :: m, 0, _ => List.Perm.refl _
  | a :: m, i + 1, h => by
    have ih := erase_perm0 (m := m) (i := i) (by simpa using h)
    show (m.getD i [] :: a :: m.eraseIdx i).Perm (a :: m)
    exact (List.Perm.swap ..).trans (ih.cons a)
theorem erase_perm {m : Mat} {i : Nat} (h : i < m.length) : (m.eraseIdx i ++ [m.getD i []]).Perm m := (List.perm_append_comm).trans (erase_perm0 h)
def sp_law_mix (Z : Ctx) : Sp := fun vs H Q _ => ∃ p v, ∃ m : Mat, vs = [.ref p, v] ∧ PurseAt H p ∧ rep (off H fun a => a = p) v m ∧ m.length ≤ 1000 ∧ NewPL p (fun m' => m'.Perm m) H Q
abbrev r_law_mix (Z : Ctx) : TS := (tSeq (tAsg (tCB (rLstG Z.K) (tCons (tVar 1) tNil)) (gName 2)) (tSeq (tAsg (tLst tNil) (gName 3)) (tSeq (tFor (iRng1 (tCons (tCB (rLenG Z.K) (tCons (tVar 1) tNil)) tNil)) (gName 4) (tDrop (tBM Z.K "list" rAppend (tVar 3) (tCons (tBM Z.K "list" rPopAt (tVar 2) (tCons (tCall (sp_law_draw Z) [] E0 (tCons (tVar 0) (tCons (tCB (rLenG Z.K) (tCons (tVar 2) tNil)) tNil))) tNil)) tNil)))) (tRet (tVar 3)))))
theorem ln_law_mix : sp_law_mix Z vs H Q E → vs.length = 2 := by rintro ⟨_, _, _, rfl, _⟩; rfl
abbrev nm_law_mix : List Str := ["purse", "things", "left", "mixed", "turn"]
theorem rd_law_mix (h : sp_law_mix Z vs H Q E) : r_law_mix Z (ends Q) (L2.start nm_law_mix vs) H := by
  obtain ⟨p, v, m, rfl, hp, ⟨l, xs, rfl, hl, ha⟩, hz, k⟩ := h
  have nl : l ≠ p := (off_some.mp hl).1
  have hl0 := off_same _ _ hl
  show r_law_mix Z (ends Q) [some (.ref p), some (.ref l), none, none, none] H
  unfold r_law_mix ends
  have hlen := ha.len
  walk_at "rd"
  refine w_lst hl0 fun L nL => ?_
  have npL := hp.ne (H0 := H) nL
  walk_at "rd"
  refine ⟨by decide, fun D nD => ?_⟩
  have nD0 : H D = none := free_of nL nD
  have npD := hp.ne (H0 := H) nD0
  have nDL : D ≠ L := fun z => by rw [z, upd_same] at nD; cases nD
  have nlL : l ≠ L := fun z => by rw [z, nL] at hl0; cases hl0
  have nlD : l ≠ D := fun z => by rw [z, nD0] at hl0; cases hl0
  have f1 : (upd (upd H L (.lst xs)) D (.lst [])) l = some (.lst xs) := by rw [upd_ne nlD, upd_ne nlL]; exact hl0
  walk_at "rd"
  refine forR (n := xs.length) (fun i σ H' => ∃ xl xm ml mm e, σ = [some (.ref p), some (.ref l), some (.ref L), some (.ref D), e] ∧ Chg p H H' ∧ PurseAt H' p ∧ H' L = some (.lst xl) ∧ H' D = some (.lst xm) ∧
      All2 (rep (off H' fun a => a = p ∨ a = L ∨ a = D)) xl ml ∧ All2 (rep (off H' fun a => a = p ∨ a = L ∨ a = D)) xm mm ∧ (ml ++ mm).Perm m ∧ mm.length = i)
    ⟨xs, [], m, [], _, rfl, ((Chg.refl H).mut nL).mut nD0, (hp.upd npL).upd npD, by rw [upd_ne nDL.symm]; exact upd_same, upd_same, ?_, trivial, by simp, rfl⟩ ?_ ?_
  · refine all2_mono (off_imp ((same_new nL).trans (same_new nD)) fun a z => ?_) ha
    rcases z with z | z | z
    · exact .inl z
    · exact .inr (z ▸ nL)
    · exact .inr (z ▸ nD0)
  · rintro i σ H' hi ⟨xl, xm, ml, mm, e, rfl, c, pu, hL, hD, aL, aD, pm, lm⟩
    show tDrop _ _ [some (.ref p), some (.ref l), some (.ref L), some (.ref D), some (.int (i : Int))] H'
    have h1 := aL.len
    have h2 := aD.len
    have h3 := pm.length_eq
    rw [List.length_append] at h3
    walk_at "rd"
    refine ⟨p, _, rfl, pu, by omega, fun z H2 c2 p2 l3 l4 => ?_⟩
    obtain ⟨r, rfl⟩ := Int.eq_ofNat_of_zero_le l3
    have hr : r < ml.length := by omega
    have hL2 := c2 _ _ npL hL
    have hD2 := c2 _ _ npD hD
    have aL2 := all2_mono (c2.off (M := fun a => a = p ∨ a = L ∨ a = D) (.inl rfl)) aL
    have aD2 := all2_mono (c2.off (M := fun a => a = p ∨ a = L ∨ a = D) (.inl rfl)) aD
    obtain ⟨q, g1, g2⟩ := mat_at aL2 hr
    walk_at "rd"
    refine w_popAt hL2 (by omega) g1 ?_
    have hD3 : (upd H2 L (.lst (xl.eraseIdx r))) D = some (.lst xm) := by rw [upd_ne nDL]; exact hD2
    walk_at "rd"
    refine w_app hD3 (by omega) ?_
    refine ⟨xl.eraseIdx r, xm ++ [.ref q], ml.eraseIdx r, mm ++ [ml.getD r []], _, rfl, ((c.trans c2).mut nL).mut nD0, (p2.upd npL).upd npD, by rw [upd_ne nDL.symm]; exact upd_same, upd_same, ?_, ?_, ?_, by simp [lm]⟩
    · rw [off_upd (M := fun a => a = p ∨ a = L ∨ a = D) (.inr (.inr rfl)), off_upd (M := fun a => a = p ∨ a = L ∨ a = D) (.inr (.inl rfl))]
      exact aL2.erase r
    · rw [off_upd (M := fun a => a = p ∨ a = L ∨ a = D) (.inr (.inr rfl)), off_upd (M := fun a => a = p ∨ a = L ∨ a = D) (.inr (.inl rfl))]
      exact aD2.snoc (rep_row_of g2)
    · refine List.Perm.trans ?_ pm
      rw [← List.append_assoc]
      refine List.Perm.trans ?_ ((erase_perm hr).append_right mm)
      rw [List.append_assoc, List.append_assoc]
      exact List.Perm.append_left _ List.perm_append_comm
  · rintro σ H' ⟨xl, xm, ml, mm, e, rfl, c, pu, hL, hD, aL, aD, pm, lm⟩
    walk_at "rd"
    have h3 := pm.length_eq
    rw [List.length_append] at h3
    have h0 : ml = [] := List.eq_nil_of_length_eq_zero (by omega)
    subst h0
    refine k D xm mm H' c pu nD0 hD (all2_mono (off_less fun a z => ?_) aD) (by simpa using pm)
    rcases z with z | z
    · exact .inl z
    · exact .inr (.inr z)
/-- rows of so many small numbers -/
structure Rows6 (w n : Nat) (m : Mat) : Prop where
  wid : Wid w m
  len : m.length ≤ n
  sm : ∀ r ∈ m, ∀ x ∈ r, Sm x
theorem Rows6.nil {w : Nat} : Rows6 w 0 [] := ⟨fun r h => absurd h (by simp), Nat.le_refl _, fun r h => absurd h (by simp)⟩
theorem Rows6.snoc {w n : Nat} {m : Mat} {r : Row} (h : Rows6 w n m) (h1 : r.length = w) (h2 : ∀ x ∈ r, Sm x) : Rows6 w (n + 1) (m ++ [r]) := by
  refine ⟨fun s hs => ?_, by rw [List.length_append]; have := h.len; simp; exact this, fun s hs => ?_⟩
  · rcases List.mem_append.mp hs with hs | hs
    · exact h.wid s hs
    · rw [List.mem_singleton.mp hs]; exact h1
  · rcases List.mem_append.mp hs with hs | hs
    · exact h.sm s hs
    · rw [List.mem_singleton.mp hs]; exact h2
def sp_law_rows_drawn (Z : Ctx) : Sp := fun vs H Q _ => ∃ p, ∃ w : Nat, ∃ z : Int, ∃ n : Nat, vs = [.ref p, .int (w : Int), .int z] ∧ z = (n : Int) ∧ PurseAt H p ∧ w ≤ 1000 ∧ n ≤ 100 ∧ NewPL p (Rows6 w n) H Q
abbrev r_law_rows_drawn (Z : Ctx) : TS := (tSeq (tAsg (tLst tNil) (gName 3)) (tSeq (tFor (iRng1 (tCons (tCall (sp_law_draw Z) [] E0 (tCons (tVar 0) (tCons (tOp rAddI (tVar 2) (tC (.int 1))) tNil))) tNil)) (gName 4) (tSeq (tAsg (tCall (sp_law_draw Z) [] E0 (tCons (tVar 0) (tCons (tC (.int 5)) tNil))) (gName 5)) (tIfS (tAnd (tTest (tOp rEq (tVar 5) (tC (.int 0)))) (tTest (tOp rGtI (tCB (rLenG Z.K) (tCons (tVar 3) tNil)) (tC (.int 0))))) (tSeq (tAsg (tOp rSubI (tC (.int 2)) (tCall (sp_law_draw Z) [] E0 (tCons (tVar 0) (tCons (tC (.int 5)) tNil)))) (gName 6)) (tSeq (tAsg (tOp (rIxG Z.K) (tVar 3) (tCall (sp_law_draw Z) [] E0 (tCons (tVar 0) (tCons (tCB (rLenG Z.K) (tCons (tVar 3) tNil)) tNil)))) (gName 7)) (tDrop (tBM Z.K "list" rAppend (tVar 3) (tCons (tLc (iList Z.K (tVar 7)) (gName 8) tYes (tIf (tTest (tOp rLeI (tCB rAbsG (tCons (tOp rMulI (tVar 6) (tVar 8)) tNil)) (tOp rPowI (tC (.int 10)) (tC (.int 6))))) (tOp rMulI (tVar 6) (tVar 8)) (tC (.int 0))) [8]) tNil))))) (tIfS (tTest (tOp rEq (tVar 5) (tC (.int 1)))) (tDrop (tBM Z.K "list" rAppend (tVar 3) (tCons (tLc (iRng1 (tCons (tVar 1) tNil)) (gName 9) tYes (tOp rMulI (tOp rAddI (tC (.int 2)) (tCall (sp_law_draw Z) [] E0 (tCons (tVar 0) (tCons (tC (.int 11)) tNil)))) (tOp rSubI (tCall (sp_law_draw Z) [] E0 (tCons (tVar 0) (tCons (tC (.int 3)) tNil))) (tC (.int 1)))) [9]) tNil))) (tIfS (tTest (tOp rEq (tVar 5) (tC (.int 2)))) (tDrop (tBM Z.K "list" rAppend (tVar 3) (tCons (tLc (iRng1 (tCons (tVar 1) tNil)) (gName 9) tYes (tOp rSubI (tCall (sp_law_draw Z) [] E0 (tCons (tVar 0) (tCons (tC (.int 5)) tNil))) (tC (.int 2))) [9]) tNil))) (tDrop (tBM Z.K "list" rAppend (tVar 3) (tCons (tCall (sp_law_row_drawn Z) [] E0 (tCons (tVar 0) (tCons (tVar 1) tNil))) tNil)))))))) (tRet (tVar 3))))
theorem ln_law_rows_drawn : sp_law_rows_drawn Z vs H Q E → vs.length = 3 := by rintro ⟨_, _, _, _, rfl, _⟩; rfl
abbrev nm_law_rows_drawn : List Str := ["purse", "width", "most", "rows", "turn", "kind", "times", "base", "one", "place"]
theorem rd_law_rows_drawn (h : sp_law_rows_drawn Z vs H Q E) : r_law_rows_drawn Z (ends Q) (L2.start nm_law_rows_drawn vs) H := by
  obtain ⟨p, w, z, n, rfl, rfl, hp, hw, hn, k⟩ := h
  show r_law_rows_drawn Z (ends Q) [some (.ref p), some (.int (w : Int)), some (.int (n : Int)), none, none, none, none, none, none, none] H
  unfold r_law_rows_drawn ends
  walk_at "rd"
  refine ⟨by decide, fun D nD => ?_⟩
  have npD := hp.ne (H0 := H) nD
  walk_at "rd"
  refine ⟨p, _, rfl, hp.upd npD, by omega, fun z H1 c1 p1 l3 l4 => ?_⟩
  obtain ⟨t, rfl⟩ := Int.eq_ofNat_of_zero_le l3
  have hD1 := c1 _ _ npD upd_same
  have c0 := ((Chg.refl H).mut nD (o := .lst [])).trans c1
  walk_at "rd"
  refine forR (n := t) (fun i σ H' => ∃ xs m e1 e2 e3 e4 e5 e6, σ = [some (.ref p), some (.int (w : Int)), some (.int (n : Int)), some (.ref D), e1, e2, e3, e4, e5, e6] ∧ Chg p H H' ∧ PurseAt H' p ∧ H' D = some (.lst xs) ∧
      All2 (rep (off H' (wth (fun a => a = p) D))) xs m ∧ Rows6 w i m) ⟨[], [], _, _, _, _, _, _, rfl, c0, p1, hD1, trivial, .nil⟩ ?_ ?_
  · rintro i σ H' hi ⟨xs, m, e1, e2, e3, e4, e5, e6, rfl, c, pu, hD, aD, hm⟩
    show tSeq _ _ _ [some (.ref p), some (.int (w : Int)), some (.int (n : Int)), some (.ref D), some (.int (i : Int)), e2, e3, e4, e5, e6] H'
    have hlen := aD.len
    have hml := hm.len
    -- what stands when a row is appended
    have fin : ∀ (q : Addr) (r : Row) (H3 : Hp) (e2 e3 e4 e5 e6 : Option V), Chg p H' H3 → PurseAt H3 p → H' q = none → H3 q = some (.lst (r.map V.int)) → r.length = w → (∀ x ∈ r, Sm x) →
        rAppend (.ref D) [.ref q] H3 fun _ H4 => ∃ xs m e1' e2' e3' e4' e5' e6', ([some (.ref p), some (.int (w : Int)), some (.int (n : Int)), some (.ref D), some (.int (i : Int)), e2, e3, e4, e5, e6] : L2.St) = [some (.ref p), some (.int (w : Int)), some (.int (n : Int)), some (.ref D), e1', e2', e3', e4', e5', e6'] ∧ Chg p H H4 ∧ PurseAt H4 p ∧ H4 D = some (.lst xs) ∧
          All2 (rep (off H4 (wth (fun a => a = p) D))) xs m ∧ Rows6 w (i + 1) m := fun q r H3 e2 e3 e4 e5 e6 c3 p3 nq eq lr sr => by
      refine w_app (c3 _ _ npD hD) (by omega) ?_
      refine ⟨_, m ++ [r], _, _, _, _, _, _, rfl, (c.trans c3).mut nD, p3.upd npD, upd_same, ?_, hm.snoc lr sr⟩
      rw [off_upd wth_l]
      refine (all2_mono (c3.off (M := wth (fun a => a = p) D) (.inl rfl)) aD).snoc (rep_row_of (off_in (fun z => ?_) eq))
      rcases z with z | z
      · exact pu.ne (H0 := H') nq z
      · rw [z, hD] at nq; cases nq
    walk_at "rd"
    refine ⟨p, _, rfl, pu, by decide, fun z H2 c2 p2 l5 l6 => ?_⟩
    walk_at "rd"
    have hD2 := c2 _ _ npD hD
    have aD2 := all2_mono (c2.off (M := wth (fun a => a = p) D) (.inl rfl)) aD
    -- the other kinds
    have rest : ∀ R : Ends, (R = R) → True := fun _ _ => trivial
    refine w_ite (fun h => ?_) (fun h => ?_)
    · walk_at "rd"
      refine w_ite (fun h2 => ?_) (fun h2 => ?_)
      · walk_at "rd"
        refine ⟨p, _, rfl, p2, by decide, fun y H3 c3 p3 l7 l8 => ?_⟩
        have hD3 := c3 _ _ npD hD2
        have aD3 := all2_mono (c3.off (M := wth (fun a => a = p) D) (.inl rfl)) aD2
        walk_at "rd"
        refine ⟨p, _, rfl, p3, by omega, fun u H4 c4 p4 l9 l10 => ?_⟩
        obtain ⟨s, rfl⟩ := Int.eq_ofNat_of_zero_le l9
        have hD4 := c4 _ _ npD hD3
        have aD4 := all2_mono (c4.off (M := wth (fun a => a = p) D) (.inl rfl)) aD3
        obtain ⟨q, g1, g2⟩ := mat_at aD4 (i := s) (by omega)
        have g3 := off_same _ _ g2
        refine w_ix hD4 g1 ?_
        walk_at "rd"
        generalize hr : m.getD s [] = r at g3 g2
        have rw' : r.length = w := by rw [← hr]; exact hm.wid.get (by omega)
        generalize hk : 2 - y = kk
        have hkk : kk = 2 ∨ kk = 1 ∨ kk = 0 ∨ kk = -1 ∨ kk = -2 := by omega
        have bk : Bd 64 kk := by
          rcases hkk with h | h | h | h | h <;> (rw [h]; exact bdc (by decide))
        refine lcLrT (xs := r.map V.int) (fun R h => by walk_at "rd"; exact h) (fun j => if (kk * at0 r j).natAbs ≤ 1000000 then kk * at0 r j else 0) (SqL.of g3) (by rw [lenV]; omega) (fun _ => rfl) (fun j x H5 hj s5 R k5 => ?_) ?_
        · obtain ⟨x', hx, rfl⟩ := row_at hj
          obtain rfl := at0_some hx
          show tIf _ _ _ [some (.ref p), some (.int (w : Int)), some (.int (n : Int)), some (.ref D), some (.int (i : Int)), some (.int z), some (.int kk), some (.ref q), some (.int (at0 r j)), e6] H5 R
          walk_at "rd"
          refine w_I (.l bk) ?_
          walk_at "rd"
          refine w_I (cpow _ (by decide) (by decide)) ?_
          walk_at "rd"
          rw [ten6]
          have k6 := k5 H5 (.refl _)
          refine w_ite (fun h => ?_) (fun h => ?_)
          · rw [if_pos (by omega)] at k6
            walk_at "rd"
            exact w_I (.l bk) k6
          · rw [if_neg (by omega)] at k6
            walk_at "rd"
            exact k6
        · rw [lenV]
          intro q5 H5 s5 n5 e5'
          walk_at "rd"
          refine fin q5 _ H5 _ _ _ _ _ ((c2.trans c3).trans (c4.trans (.of s5))) (p4.same s5) (((c2.trans c3).trans c4).fresh p4 n5) e5' (by simp [rw']) fun x hx => ?_
          obtain ⟨j, _, rfl⟩ := List.mem_map.mp hx
          unfold Sm
          split <;> omega
      · walk_at "rd"
        refine w_ite (fun h3 => by omega) (fun h3 => ?_)
        walk_at "rd"
        refine w_ite (fun h4 => by omega) (fun h4 => ?_)
        walk_at "rd"
        refine ⟨p, w, rfl, p2, hw, fun q r H3 c3 p3 n3 e3' lr sr => ?_⟩
        walk_at "rd"
        exact fin q r H3 _ _ _ _ _ (c2.trans c3) p3 (c2.fresh p2 n3) e3' lr sr
    · walk_at "rd"
      refine w_ite (fun h3 => ?_) (fun h3 => ?_)
      · walk_at "rd"
        refine lcRP (n := w) (p := p) (P := Sm) (fun R h => by walk_at "rd"; exact h) p2 (by omega) (fun _ => rfl) (fun j H3 hj c3 p3 R k3 => ?_) (fun q r H3 c3 p3 n3 e3' lr sr => ?_)
        · show tOp _ _ _ [some (.ref p), some (.int (w : Int)), some (.int (n : Int)), some (.ref D), some (.int (i : Int)), some (.int z), e3, e4, e5, some (.int (j : Int))] H3 R
          walk_at "rd"
          refine ⟨p, _, rfl, p3, by decide, fun y H4 c4 p4 l7 l8 => ?_⟩
          walk_at "rd"
          refine ⟨p, _, rfl, p4, by decide, fun u H5 c5 p5 l9 l10 => ?_⟩
          walk_at "rd"
          have hu : u = 0 ∨ u = 1 ∨ u = 2 := by omega
          rcases hu with rfl | rfl | rfl
          · refine w_I (.r (bdc (by decide))) ?_
            exact k3 _ H5 (by unfold Sm; omega) (c4.trans c5) p5
          · refine w_I (.r (bdc (by decide))) ?_
            exact k3 _ H5 (by unfold Sm; omega) (c4.trans c5) p5
          · refine w_I (.r (bdc (by decide))) ?_
            exact k3 _ H5 (by unfold Sm; omega) (c4.trans c5) p5
        · walk_at "rd"
          exact fin q r H3 _ _ _ _ _ (c2.trans c3) p3 (c2.fresh p2 n3) e3' lr sr
      · walk_at "rd"
        refine w_ite (fun h4 => ?_) (fun h4 => ?_)
        · walk_at "rd"
          refine lcRP (n := w) (p := p) (P := Sm) (fun R h => by walk_at "rd"; exact h) p2 (by omega) (fun _ => rfl) (fun j H3 hj c3 p3 R k3 => ?_) (fun q r H3 c3 p3 n3 e3' lr sr => ?_)
          · show tOp _ _ _ [some (.ref p), some (.int (w : Int)), some (.int (n : Int)), some (.ref D), some (.int (i : Int)), some (.int z), e3, e4, e5, some (.int (j : Int))] H3 R
            walk_at "rd"
            refine ⟨p, _, rfl, p3, by decide, fun y H4 c4 p4 l7 l8 => ?_⟩
            walk_at "rd"
            exact k3 _ H4 (by unfold Sm; omega) c4 p4
          · walk_at "rd"
            exact fin q r H3 _ _ _ _ _ (c2.trans c3) p3 (c2.fresh p2 n3) e3' lr sr
        · walk_at "rd"
          refine ⟨p, w, rfl, p2, hw, fun q r H3 c3 p3 n3 e3' lr sr => ?_⟩
          walk_at "rd"
          exact fin q r H3 _ _ _ _ _ (c2.trans c3) p3 (c2.fresh p2 n3) e3' lr sr
  · rintro σ H' ⟨xs, m, e1, e2, e3, e4, e5, e6, rfl, c, pu, hD, aD, hm⟩
    walk_at "rd"
    exact k D xs m H' c pu nD hD aD ⟨hm.wid, by have := hm.len; omega, hm.sm⟩
end
end G
end
section
set_option Elab.async false
set_option linter.all false
set_option maxRecDepth 100000
namespace G
open PySem L2 PyProof.Rows
local macro_rules | `(tactic| walk_at "rd") => `(tactic| repeat (first
  | (with_reducible refine v_seq ?_)
  | (with_reducible refine v_asg ?_)
  | (with_reducible refine w_cons ?_)
  | (with_reducible refine w_nil ?_)
  | (with_reducible refine w_op ?_)
  | (with_reducible refine w_c ?_)
  | (with_reducible refine w_I0 ?_)
  | (with_reducible refine w_cb ?_)
  | (with_reducible refine w_call ?_)
  | (with_reducible refine v_ret ?_)
  | (with_reducible refine v_next ?_)
  | (with_reducible refine w_ixR (by assumption) (by assumption) ?_)
  | (with_reducible refine w_ix (by assumption) (by assumption) ?_)
  | (with_reducible refine w_test ?_)
  | (with_reducible refine w_tB ?_)
  | (with_reducible refine w_and ?_)
  | (with_reducible refine w_or ?_)
  | (with_reducible refine w_not ?_)
  | (with_reducible refine w_ifE ?_)
  | (with_reducible refine v_ifS ?_)
  | (with_reducible refine w_tt ?_)
  | (with_reducible refine w_ff ?_)
  | (with_reducible refine w_eqI ?_)
  | (with_reducible refine w_neI ?_)
  | (with_reducible refine w_U ?_)
  | (with_reducible refine w_un ?_)
  | (with_reducible refine w_len (by assumption) ?_)
  | (with_reducible refine w_abs ?_)
  | (with_reducible refine w_int ?_)
  | (with_reducible refine w_isN0 ?_)
  | (with_reducible refine w_isN1 (by assumption) ?_)
  | (with_reducible refine w_isN1 ne_in ?_)
  | (with_reducible refine w_isN1 ne_rn ?_)
  | (with_reducible refine w_notN0 ?_)
  | (with_reducible refine w_notN1 ne_in ?_)
  | (with_reducible refine w_notN1 ne_rn ?_)
  | (with_reducible refine v_lst ?_)
  | (with_reducible refine v_tup ?_)
  | (with_reducible refine w_notN1 (by assumption) ?_)
  | (with_reducible refine v_drop ?_)
  | (with_reducible refine w_bm ?_)
  | (with_reducible refine v_for ?_)
  | (with_reducible refine v_rng1 ?_)
  | (with_reducible refine v_rng2 ?_)
  | (with_reducible refine v_list ?_)
  | (with_reducible refine w_sub ?_)
  | (with_reducible refine v_ip ?_)
  | (with_reducible refine v_augS ?_)
  | (with_reducible refine v_retN ?_)
  | (with_reducible refine w_yes ?_)
  | (with_reducible refine tv_0 ?_)
  | (with_reducible refine nv_0 ?_)
  | (with_reducible refine av_0 ?_)
  | (with_reducible refine tv_1 ?_)
  | (with_reducible refine nv_1 ?_)
  | (with_reducible refine av_1 ?_)
  | (with_reducible refine tv_2 ?_)
  | (with_reducible refine nv_2 ?_)
  | (with_reducible refine av_2 ?_)
  | (with_reducible refine tv_3 ?_)
  | (with_reducible refine nv_3 ?_)
  | (with_reducible refine av_3 ?_)
  | (with_reducible refine tv_4 ?_)
  | (with_reducible refine nv_4 ?_)
  | (with_reducible refine av_4 ?_)
  | (with_reducible refine tv_5 ?_)
  | (with_reducible refine nv_5 ?_)
  | (with_reducible refine av_5 ?_)
  | (with_reducible refine tv_6 ?_)
  | (with_reducible refine nv_6 ?_)
  | (with_reducible refine av_6 ?_)
  | (with_reducible refine tv_7 ?_)
  | (with_reducible refine nv_7 ?_)
  | (with_reducible refine av_7 ?_)
  | (with_reducible refine tv_8 ?_)
  | (with_reducible refine nv_8 ?_)
  | (with_reducible refine av_8 ?_)
  | (with_reducible refine tv_9 ?_)
  | (with_reducible refine nv_9 ?_)
  | (with_reducible refine av_9 ?_)
  | (with_reducible refine tv_10 ?_)
  | (with_reducible refine nv_10 ?_)
  | (with_reducible refine av_10 ?_)
  | (with_reducible refine tv_11 ?_)
  | (with_reducible refine nv_11 ?_)
  | (with_reducible refine av_11 ?_)
  | (with_reducible refine tv_12 ?_)
  | (with_reducible refine nv_12 ?_)
  | (with_reducible refine av_12 ?_)
  | (with_reducible refine tv_13 ?_)
  | (with_reducible refine nv_13 ?_)
  | (with_reducible refine av_13 ?_)
  | (with_reducible refine tv_14 ?_)
  | (with_reducible refine nv_14 ?_)
  | (with_reducible refine av_14 ?_)
  | (with_reducible refine tv_15 ?_)
  | (with_reducible refine nv_15 ?_)
  | (with_reducible refine av_15 ?_)
  | (with_reducible refine ⟨_, rfl, ⟨_, SqL.of (by assumption)⟩, ?_⟩)
  | (with_reducible refine ⟨_, rfl, (by omega), (by omega), ?_⟩)
  | (with_reducible refine ⟨w_tyL (by assumption), ?_⟩)
  | (with_reducible refine w_isiII ?_)
  | (with_reducible refine w_isiIB ?_)
  | (with_reducible refine w_isiBB ?_)
  | (with_reducible refine w_isiBI ?_)
  | (with_reducible refine w_isiNL ?_)
  | (with_reducible refine w_isiLL (by assumption) ?_)
  | (with_reducible refine v_sl ?_)
  | (with_reducible refine w_nff ?_)
  | (with_reducible refine w_ntt ?_)
  | (with_reducible refine v_chain ?_)
  | (with_reducible refine v_andV ?_)
  | (with_reducible refine v_orV ?_)
  | (with_reducible refine v_notV ?_)
  | (with_reducible refine v_noP ?_)
  | (with_reducible refine v_part ?_)
  | (with_reducible refine v_fld ?_)
  | (with_reducible refine v_sfld ?_)
  | (with_reducible refine ⟨_, (rfl : V.bl _ = V.bl _), ?_⟩)
  | (with_reducible refine ⟨_, (rfl : V.ref _ = V.ref _), ?_⟩)
  | (with_reducible refine ⟨_, (rfl : [V.int _] = [V.int _]), ?_⟩)
  | (with_reducible refine ⟨_, (rfl : V.int _ = V.int _), ?_⟩)
  | (with_reducible refine ⟨⟨_, SqL.of (by assumption)⟩, ?_⟩)
  | (with_reducible refine ⟨(by (first | omega | (rw [lenV]; omega)) : -(2 ^ 62) ≤ _), (by first | omega | (rw [lenV]; omega)), ?_⟩)
  | (with_reducible refine v_meth ?_)
  | (with_reducible refine v_make ?_)
  | (with_reducible refine w_neBB ?_)
  | (with_reducible refine w_eqBB ?_)
  | (with_reducible refine w_isiRI (by assumption) ?_)
  ))
section
variable {Z : Ctx} {vs : List V} {H : Hp} {Q : VK} {E : XK}
theorem v_par {i j : Nat} {ta : TA} {D : Ends} {σ : L2.St} (h : ta σ H fun vs H1 => ∃ v w, vs = [v, w] ∧ D.nx ((σ.set i (some v)).set j (some w)) H1) : tPar i j ta D σ H := h
theorem fmod_lt {a b : Int} (h : b ≠ 0) : (a.fmod b).natAbs < b.natAbs := by
  have e : a - a.fdiv b * b = a.fmod b := by
    have := Int.mul_fdiv_add_fmod a b
    rw [Int.mul_comm] at this
    omega
  rw [← e]
  exact fmod_small h
def sp_greatest_common (Z : Ctx) : Sp := fun vs H Q _ => ∃ a b : Int, vs = [.int a, .int b] ∧ ∀ H', Same H H' → Q (.int ((Nat.gcd a.natAbs b.natAbs : Nat) : Int)) H'
abbrev r_greatest_common (Z : Ctx) : TS := (tSeq (tWhile (tTest (tOp rNe (tVar 1) (tC (.int 0)))) (tPar 0 1 (tCons (tVar 1) (tCons (tOp rModI (tVar 0) (tVar 1)) tNil)))) (tRet (tCB rAbsG (tCons (tVar 0) tNil))))
theorem ln_greatest_common : sp_greatest_common Z vs H Q E → vs.length = 2 := by rintro ⟨_, _, rfl, _⟩; rfl
abbrev nm_greatest_common : List Str := ["one", "other"]
theorem rd_greatest_common (h : sp_greatest_common Z vs H Q E) : r_greatest_common Z (ends Q) (L2.start nm_greatest_common vs) H := by
  obtain ⟨a, b, rfl, k⟩ := h
  show r_greatest_common Z (ends Q) [some (.int a), some (.int b)] H
  unfold r_greatest_common ends
  refine v_while (fun n σ H' => ∃ c d : Int, n = d.natAbs ∧ σ = [some (.int c), some (.int d)] ∧ Nat.gcd c.natAbs d.natAbs = Nat.gcd a.natAbs b.natAbs ∧ Same H H') b.natAbs ⟨a, b, rfl, rfl, rfl, .refl _⟩ ?_
  rintro n σ H' ⟨c, d, rfl, rfl, e, s⟩
  walk_at "rd"
  refine w_ite (fun h => ?_) (fun h => ?_)
  · refine ⟨_, fun σ' H' h => h, ?_⟩
    refine v_par ?_
    walk_at "rd"
    refine w_I h ?_
    refine ⟨_, _, rfl, ?_⟩
    exact ⟨_, fmod_lt h, d, _, rfl, rfl, by rw [gcd_fmod, e], s⟩
  · walk_at "rd"
    have hd : d = 0 := by omega
    rw [hd] at e
    simp only [Int.natAbs_zero, Nat.gcd_zero_right] at e
    rw [e]
    exact k _ s
def sp_law_gcd (Z : Ctx) : Sp := fun vs H Q _ => ∃ a b : Int, vs = [.int a, .int b] ∧ Q (.int ((Nat.gcd a.natAbs b.natAbs : Nat) : Int)) H
abbrev r_law_gcd (Z : Ctx) : TS := (tSeq (tAsg (tCB rAbsG (tCons (tVar 0) tNil)) (gName 0)) (tSeq (tAsg (tCB rAbsG (tCons (tVar 1) tNil)) (gName 1)) (tSeq (tWhile (tTest (tOp rGtI (tVar 1) (tC (.int 0)))) (tSeq (tAsg (tOp rModI (tCB rIntG (tCons (tVar 0) tNil)) (tVar 1)) (gName 2)) (tSeq (tAsg (tVar 1) (gName 0)) (tAsg (tVar 2) (gName 1))))) (tRet (tVar 0)))))
theorem ln_law_gcd : sp_law_gcd Z vs H Q E → vs.length = 2 := by rintro ⟨_, _, rfl, _⟩; rfl
abbrev nm_law_gcd : List Str := ["one", "other", "rest"]
theorem rd_law_gcd (h : sp_law_gcd Z vs H Q E) : r_law_gcd Z (ends Q) (L2.start nm_law_gcd vs) H := by
  obtain ⟨a, b, rfl, k⟩ := h
  show r_law_gcd Z (ends Q) [some (.int a), some (.int b), none] H
  unfold r_law_gcd ends
  walk_at "rd"
  refine v_while (fun n σ H' => ∃ c d : Nat, ∃ x, n = d ∧ σ = [some (.int c), some (.int d), x] ∧ Nat.gcd c d = Nat.gcd a.natAbs b.natAbs ∧ H' = H) b.natAbs ⟨_, _, _, rfl, rfl, rfl, rfl⟩ ?_
  rintro n σ H' ⟨c, d, x, rfl, rfl, e, rfl⟩
  walk_at "rd"
  refine w_ite (fun h => ?_) (fun h => ?_)
  · refine ⟨_, fun σ' H' h => h, ?_⟩
    walk_at "rd"
    refine w_I (by omega) ?_
    walk_at "rd"
    have h1 := Int.fmod_nonneg_of_pos (c : Int) h
    have h2 := Int.fmod_lt_of_pos (c : Int) h
    have h3 := gcd_fmod (c : Int) (n : Int)
    obtain ⟨f, hf⟩ := Int.eq_ofNat_of_zero_le h1
    rw [hf] at h2 h3
    rw [hf]
    exact ⟨_, (by omega : f < n), n, f, _, rfl, rfl, by simpa using h3.trans (by simpa using e), rfl⟩
  · walk_at "rd"
    have hd : n = 0 := by omega
    subst hd
    rw [Nat.gcd_zero_right] at e
    rw [e]
    exact k
def sp_law_dot (Z : Ctx) : Sp := fun vs H Q _ => ∃ v u, ∃ a b : Row, vs = [v, u] ∧ rep H v a ∧ rep H u b ∧ a.length = b.length ∧ b.length ≤ 1000 ∧ (∀ i, CMulG (at0 a i) (at0 b i)) ∧ ∀ H', Same H H' → Q (.int (dot a b)) H'
abbrev r_law_dot (Z : Ctx) : TS := (tRet (tCB (rSum Z.K) (tCons (tLc (iRng1 (tCons (tCB (rLenG Z.K) (tCons (tVar 1) tNil)) tNil)) (gName 2) tYes (tOp rMulI (tOp (rIxG Z.K) (tVar 0) (tVar 2)) (tOp (rIxG Z.K) (tVar 1) (tVar 2))) [2]) tNil)))
theorem ln_law_dot : sp_law_dot Z vs H Q E → vs.length = 2 := by rintro ⟨_, _, _, _, rfl, _⟩; rfl
abbrev nm_law_dot : List Str := ["weights", "row", "place"]
theorem rd_law_dot (h : sp_law_dot Z vs H Q E) : r_law_dot Z (ends Q) (L2.start nm_law_dot vs) H := by
  obtain ⟨v, u, a, b, rfl, ha, hb, hl, hz, hc, k⟩ := h
  obtain ⟨p, rfl, hp⟩ := rep_row.mp ha
  obtain ⟨q, rfl, hq⟩ := rep_row.mp hb
  show r_law_dot Z (ends Q) [some (.ref p), some (.ref q), none] H
  unfold r_law_dot ends
  walk_at "rd"
  refine lcRrT (n := (b.map V.int).length) (fun R h => by walk_at "rd"; exact h) (fun i => at0 a i * at0 b i) (by rw [lenV]; omega) (fun _ => rfl) (fun i H1 hi s R k1 => ?_) ?_
  · rw [lenV] at hi
    have h1 := s _ _ hp
    have h2 := s _ _ hq
    have g1 := at0_get (r := a) (i := i) (by omega)
    have g2 := at0_get (r := b) (i := i) hi
    show tOp _ _ _ [some (.ref p), some (.ref q), some (.int (i : Int))] H1 R
    walk_at "rd"
    refine w_I (hc i) ?_
    exact k1 _ (.refl _)
  · intro l H1 s n e
    walk_at "rd"
    refine w_sum e ?_
    rw [sumTo_list, lenV]
    exact k _ s
def sp_law_unit (Z : Ctx) : Sp := fun vs H Q _ => ∃ z1 z2 : Int, ∃ n p : Nat, vs = [.int z1, .int z2] ∧ z1 = (n : Int) ∧ z2 = (p : Int) ∧ n ≤ 1000 ∧ NewR H (unitR n p) Q
abbrev r_law_unit (Z : Ctx) : TS := (tRet (tLc (iRng1 (tCons (tVar 0) tNil)) (gName 2) tYes (tIf (tTest (tOp rEq (tVar 2) (tVar 1))) (tC (.int 1)) (tC (.int 0))) [2]))
theorem ln_law_unit : sp_law_unit Z vs H Q E → vs.length = 2 := by rintro ⟨_, _, _, _, rfl, _⟩; rfl
abbrev nm_law_unit : List Str := ["width", "place", "at"]
theorem rd_law_unit (h : sp_law_unit Z vs H Q E) : r_law_unit Z (ends Q) (L2.start nm_law_unit vs) H := by
  obtain ⟨z1, z2, n, p, rfl, rfl, rfl, hz, k⟩ := h
  show r_law_unit Z (ends Q) [some (.int n), some (.int p), none] H
  unfold r_law_unit ends
  walk_at "rd"
  refine lcRrT (n := n) (fun R h => by walk_at "rd"; exact h) (fun i => if i = p then 1 else 0) (by omega) (fun _ => rfl) (fun i H1 hi s R k => ?_) k
  show (tIf _ _ _) [some (.int n), some (.int p), some (.int (i : Int))] H1 R
  walk_at "rd"
  have := k _ (Same.refl _)
  refine w_ite (fun h => ?_) (fun h => ?_)
  · walk_at "rd"
    rw [if_pos (by omega)] at this
    exact this
  · walk_at "rd"
    rw [if_neg (by omega)] at this
    exact this
/-- what the weights show, ahead of each row -/
def spShows : Sp := fun vs H Q _ => ∃ v u, ∃ w : Nat, ∃ A W : Mat, vs = [v, u] ∧ rep H v A ∧ rep H u W ∧ Wid w A ∧ Wid w W ∧ w ≤ 500 ∧ A.length ≤ 1000 ∧ W.length ≤ 500 ∧ (∀ i j k, CMulG (ent W i k) (ent A j k)) ∧ NewL (dom H) H (shows A W) Q
def sp_law_shows (Z : Ctx) : Sp := spShows
abbrev r_law_shows (Z : Ctx) : TS := (tRet (tLc (iList Z.K (tVar 0)) (gName 3) tYes (tOp rCat (tLc (iList Z.K (tVar 1)) (gName 2) tYes (tCall (sp_law_dot Z) [] E0 (tCons (tVar 2) (tCons (tVar 3) tNil))) [2]) (tCB (rLstG Z.K) (tCons (tVar 3) tNil))) [3]))
theorem ln_law_shows : sp_law_shows Z vs H Q E → vs.length = 2 := by rintro ⟨_, _, _, _, _, rfl, _⟩; rfl
abbrev nm_law_shows : List Str := ["rows", "weights_list", "weights", "row"]
theorem rd_law_shows (h : sp_law_shows Z vs H Q E) : r_law_shows Z (ends Q) (L2.start nm_law_shows vs) H := by
  obtain ⟨v, u, w, A, W, rfl, ⟨l, xs, rfl, hl, ha⟩, ⟨m, ys, rfl, hm, hb⟩, hA, hW, hw, hz, hz2, hc, k⟩ := h
  have h1 := ha.len
  have h2 := hb.len
  show r_law_shows Z (ends Q) [some (.ref l), some (.ref m), none, none] H
  unfold r_law_shows ends
  walk_at "rd"
  refine lcLT (xs := xs) (fun R h => by walk_at "rd"; exact h) (dom H) (fun i => show1 W (A.getD i [])) (SqL.of hl) (by omega) (fun _ h => h) (fun _ => rfl) (fun i x H1 M1 hi s so dm R k1 => ?_) ?_
  · have hi2 := (List.getElem?_eq_some_iff.mp hi).1
    obtain ⟨q, g1, g2⟩ := mat_at ha (i := i) (by omega)
    rw [g1] at hi
    cases hi
    have g3 := s _ _ g2
    have g4 := s _ _ hm
    have lr := hA.get (i := i) (by omega)
    show tOp _ _ _ [some (.ref l), some (.ref m), none, some (.ref q)] H1 R
    walk_at "rd"
    refine lcLrT (xs := ys) (fun R h => by walk_at "rd"; exact h) (fun j => dot (W.getD j []) (A.getD i [])) (SqL.of g4) (by omega) (fun _ => rfl) (fun j y H2 hj s2 R2 k2 => ?_) ?_
    · have hj2 := (List.getElem?_eq_some_iff.mp hj).1
      obtain ⟨q2, f1, f2⟩ := mat_at hb (i := j) (by omega)
      rw [f1] at hj
      cases hj
      show tCall _ _ _ _ [some (.ref l), some (.ref m), some (.ref q2), some (.ref q)] H2 R2
      walk_at "rd"
      exact ⟨.ref q2, .ref q, W.getD j [], A.getD i [], rfl, rep_row_of (s2 _ _ (s _ _ f2)), rep_row_of (s2 _ _ g3), by rw [hW.get (by omega), lr], by omega, fun k => hc j i k, fun H3 s3 => k2 H3 s3⟩
    · intro p3 H3 s3 n3 e3
      have g5 := s3 _ _ g3
      walk_at "rd"
      refine w_lst g5 fun l4 n4 => ?_
      have e4 : (upd H3 l4 (.lst ((A.getD i []).map V.int))) l4 = some (.lst ((A.getD i []).map V.int)) := upd_same
      have s4 := same_new (o := .lst ((A.getD i []).map V.int)) n4
      refine w_cat (s4 _ _ e3) e4 (by rw [lenV, lenV, lr]; simp; omega) fun p5 n5 => ?_
      rw [← List.map_append]
      have ee : ((List.range ys.length).map fun j => dot (W.getD j []) (A.getD i [])) ++ A.getD i [] = show1 W (A.getD i []) := by
        unfold show1
        congr 1
        rw [h2]
        conv => rhs; rw [← list_eq_range W, List.map_map]
        rfl
      rw [ee]
      refine k1 _ _ (s3.trans (s4.trans (same_new n5))) (rep_row_of (off_in (fun z => dom_same (s3.trans s4) (dm _ z) n5) upd_same))
  · have e : (List.range xs.length).map (fun i => show1 W (A.getD i [])) = shows A W := by
      rw [h1]
      unfold shows
      conv => rhs; rw [← list_eq_range A, List.map_map]
      rfl
    rw [e]
    exact k
def sp_shown_rows (Z : Ctx) : Sp := spShows
abbrev r_shown_rows (Z : Ctx) : TS := (tRet (tLc (iList Z.K (tVar 0)) (gName 3) tYes (tOp rCat (tLc (iList Z.K (tVar 1)) (gName 2) tYes (tCall (sp_dot_product Z) [] E0 (tCons (tVar 2) (tCons (tVar 3) tNil))) [2]) (tCB (rLstG Z.K) (tCons (tVar 3) tNil))) [3]))
theorem ln_shown_rows : sp_shown_rows Z vs H Q E → vs.length = 2 := by rintro ⟨_, _, _, _, _, rfl, _⟩; rfl
abbrev nm_shown_rows : List Str := ["rows", "weights_list", "weights", "row"]
theorem rd_shown_rows (h : sp_shown_rows Z vs H Q E) : r_shown_rows Z (ends Q) (L2.start nm_shown_rows vs) H := by
  obtain ⟨v, u, w, A, W, rfl, ⟨l, xs, rfl, hl, ha⟩, ⟨m, ys, rfl, hm, hb⟩, hA, hW, hw, hz, hz2, hc, k⟩ := h
  have h1 := ha.len
  have h2 := hb.len
  show r_shown_rows Z (ends Q) [some (.ref l), some (.ref m), none, none] H
  unfold r_shown_rows ends
  walk_at "rd"
  refine lcLT (xs := xs) (fun R h => by walk_at "rd"; exact h) (dom H) (fun i => show1 W (A.getD i [])) (SqL.of hl) (by omega) (fun _ h => h) (fun _ => rfl) (fun i x H1 M1 hi s so dm R k1 => ?_) ?_
  · have hi2 := (List.getElem?_eq_some_iff.mp hi).1
    obtain ⟨q, g1, g2⟩ := mat_at ha (i := i) (by omega)
    rw [g1] at hi
    cases hi
    have g3 := s _ _ g2
    have g4 := s _ _ hm
    have lr := hA.get (i := i) (by omega)
    show tOp _ _ _ [some (.ref l), some (.ref m), none, some (.ref q)] H1 R
    walk_at "rd"
    refine lcLrT (xs := ys) (fun R h => by walk_at "rd"; exact h) (fun j => dot (W.getD j []) (A.getD i [])) (SqL.of g4) (by omega) (fun _ => rfl) (fun j y H2 hj s2 R2 k2 => ?_) ?_
    · have hj2 := (List.getElem?_eq_some_iff.mp hj).1
      obtain ⟨q2, f1, f2⟩ := mat_at hb (i := j) (by omega)
      rw [f1] at hj
      cases hj
      show tCall _ _ _ _ [some (.ref l), some (.ref m), some (.ref q2), some (.ref q)] H2 R2
      walk_at "rd"
      exact ⟨.ref q2, .ref q, W.getD j [], A.getD i [], rfl, rep_row_of (s2 _ _ (s _ _ f2)), rep_row_of (s2 _ _ g3), by rw [hW.get (by omega), lr], by omega, fun k => hc j i k, k2 H2 (.refl _)⟩
    · intro p3 H3 s3 n3 e3
      have g5 := s3 _ _ g3
      walk_at "rd"
      refine w_lst g5 fun l4 n4 => ?_
      have e4 : (upd H3 l4 (.lst ((A.getD i []).map V.int))) l4 = some (.lst ((A.getD i []).map V.int)) := upd_same
      have s4 := same_new (o := .lst ((A.getD i []).map V.int)) n4
      refine w_cat (s4 _ _ e3) e4 (by rw [lenV, lenV, lr]; simp; omega) fun p5 n5 => ?_
      rw [← List.map_append]
      have ee : ((List.range ys.length).map fun j => dot (W.getD j []) (A.getD i [])) ++ A.getD i [] = show1 W (A.getD i []) := by
        unfold show1
        congr 1
        rw [h2]
        conv => rhs; rw [← list_eq_range W, List.map_map]
        rfl
      rw [ee]
      refine k1 _ _ (s3.trans (s4.trans (same_new n5))) (rep_row_of (off_in (fun z => dom_same (s3.trans s4) (dm _ z) n5) upd_same))
  · have e : (List.range xs.length).map (fun i => show1 W (A.getD i [])) = shows A W := by
      rw [h1]
      unfold shows
      conv => rhs; rw [← list_eq_range A, List.map_map]
      rfl
    rw [e]
    exact k
end
end G
end
section
set_option Elab.async false
set_option linter.all false
set_option maxRecDepth 100000
namespace G
open PySem L2 PyProof.Rows
local macro_rules | `(tactic| walk_at "rd") => `(tactic| repeat (first
  | (with_reducible refine v_seq ?_)
  | (with_reducible refine v_asg ?_)
  | (with_reducible refine w_cons ?_)
  | (with_reducible refine w_nil ?_)
  | (with_reducible refine w_op ?_)
  | (with_reducible refine w_c ?_)
  | (with_reducible refine w_I0 ?_)
  | (with_reducible refine w_cb ?_)
  | (with_reducible refine w_call ?_)
  | (with_reducible refine v_ret ?_)
  | (with_reducible refine v_next ?_)
  | (with_reducible refine w_ixR (by assumption) (by assumption) ?_)
  | (with_reducible refine w_ix (by assumption) (by assumption) ?_)
  | (with_reducible refine w_test ?_)
  | (with_reducible refine w_tB ?_)
  | (with_reducible refine w_and ?_)
  | (with_reducible refine w_or ?_)
  | (with_reducible refine w_not ?_)
  | (with_reducible refine w_ifE ?_)
  | (with_reducible refine v_ifS ?_)
  | (with_reducible refine w_tt ?_)
  | (with_reducible refine w_ff ?_)
  | (with_reducible refine w_eqI ?_)
  | (with_reducible refine w_neI ?_)
  | (with_reducible refine w_U ?_)
  | (with_reducible refine w_un ?_)
  | (with_reducible refine w_len (by assumption) ?_)
  | (with_reducible refine w_abs ?_)
  | (with_reducible refine w_int ?_)
  | (with_reducible refine w_isN0 ?_)
  | (with_reducible refine w_isN1 (by assumption) ?_)
  | (with_reducible refine w_isN1 ne_in ?_)
  | (with_reducible refine w_isN1 ne_rn ?_)
  | (with_reducible refine w_notN0 ?_)
  | (with_reducible refine w_notN1 ne_in ?_)
  | (with_reducible refine w_notN1 ne_rn ?_)
  | (with_reducible refine v_lst ?_)
  | (with_reducible refine v_tup ?_)
  | (with_reducible refine w_notN1 (by assumption) ?_)
  | (with_reducible refine v_drop ?_)
  | (with_reducible refine w_bm ?_)
  | (with_reducible refine v_for ?_)
  | (with_reducible refine v_rng1 ?_)
  | (with_reducible refine v_rng2 ?_)
  | (with_reducible refine v_list ?_)
  | (with_reducible refine w_sub ?_)
  | (with_reducible refine v_ip ?_)
  | (with_reducible refine v_augS ?_)
  | (with_reducible refine v_retN ?_)
  | (with_reducible refine w_yes ?_)
  | (with_reducible refine tv_0 ?_)
  | (with_reducible refine nv_0 ?_)
  | (with_reducible refine av_0 ?_)
  | (with_reducible refine tv_1 ?_)
  | (with_reducible refine nv_1 ?_)
  | (with_reducible refine av_1 ?_)
  | (with_reducible refine tv_2 ?_)
  | (with_reducible refine nv_2 ?_)
  | (with_reducible refine av_2 ?_)
  | (with_reducible refine tv_3 ?_)
  | (with_reducible refine nv_3 ?_)
  | (with_reducible refine av_3 ?_)
  | (with_reducible refine tv_4 ?_)
  | (with_reducible refine nv_4 ?_)
  | (with_reducible refine av_4 ?_)
  | (with_reducible refine tv_5 ?_)
  | (with_reducible refine nv_5 ?_)
  | (with_reducible refine av_5 ?_)
  | (with_reducible refine tv_6 ?_)
  | (with_reducible refine nv_6 ?_)
  | (with_reducible refine av_6 ?_)
  | (with_reducible refine tv_7 ?_)
  | (with_reducible refine nv_7 ?_)
  | (with_reducible refine av_7 ?_)
  | (with_reducible refine tv_8 ?_)
  | (with_reducible refine nv_8 ?_)
  | (with_reducible refine av_8 ?_)
  | (with_reducible refine tv_9 ?_)
  | (with_reducible refine nv_9 ?_)
  | (with_reducible refine av_9 ?_)
  | (with_reducible refine tv_10 ?_)
  | (with_reducible refine nv_10 ?_)
  | (with_reducible refine av_10 ?_)
  | (with_reducible refine tv_11 ?_)
  | (with_reducible refine nv_11 ?_)
  | (with_reducible refine av_11 ?_)
  | (with_reducible refine tv_12 ?_)
  | (with_reducible refine nv_12 ?_)
  | (with_reducible refine av_12 ?_)
  | (with_reducible refine tv_13 ?_)
  | (with_reducible refine nv_13 ?_)
  | (with_reducible refine av_13 ?_)
  | (with_reducible refine tv_14 ?_)
  | (with_reducible refine nv_14 ?_)
  | (with_reducible refine av_14 ?_)
  | (with_reducible refine tv_15 ?_)
  | (with_reducible refine nv_15 ?_)
  | (with_reducible refine av_15 ?_)
  | (with_reducible refine ⟨_, rfl, ⟨_, SqL.of (by assumption)⟩, ?_⟩)
  | (with_reducible refine ⟨_, rfl, (by omega), (by omega), ?_⟩)
  | (with_reducible refine ⟨w_tyL (by assumption), ?_⟩)
  | (with_reducible refine w_isiII ?_)
  | (with_reducible refine w_isiIB ?_)
  | (with_reducible refine w_isiBB ?_)
  | (with_reducible refine w_isiBI ?_)
  | (with_reducible refine w_isiNL ?_)
  | (with_reducible refine w_isiLL (by assumption) ?_)
  | (with_reducible refine v_sl ?_)
  | (with_reducible refine w_nff ?_)
  | (with_reducible refine w_ntt ?_)
  | (with_reducible refine v_chain ?_)
  | (with_reducible refine v_andV ?_)
  | (with_reducible refine v_orV ?_)
  | (with_reducible refine v_notV ?_)
  | (with_reducible refine v_noP ?_)
  | (with_reducible refine v_part ?_)
  | (with_reducible refine v_fld ?_)
  | (with_reducible refine v_sfld ?_)
  | (with_reducible refine ⟨_, (rfl : V.bl _ = V.bl _), ?_⟩)
  | (with_reducible refine ⟨_, (rfl : V.ref _ = V.ref _), ?_⟩)
  | (with_reducible refine ⟨_, (rfl : [V.int _] = [V.int _]), ?_⟩)
  | (with_reducible refine ⟨_, (rfl : V.int _ = V.int _), ?_⟩)
  | (with_reducible refine ⟨⟨_, SqL.of (by assumption)⟩, ?_⟩)
  | (with_reducible refine ⟨(by (first | omega | (rw [lenV]; omega)) : -(2 ^ 62) ≤ _), (by first | omega | (rw [lenV]; omega)), ?_⟩)
  | (with_reducible refine v_meth ?_)
  | (with_reducible refine v_make ?_)
  | (with_reducible refine w_neBB ?_)
  | (with_reducible refine w_eqBB ?_)
  | (with_reducible refine w_isiRI (by assumption) ?_)
  ))
section
variable {Z : Ctx} {vs : List V} {H : Hp} {Q : VK} {E : XK}
theorem newL_up {α : Type} [Rep α] {H H1 : Hp} {as : List α} {Q : VK} (s : Same H H1) (k : NewL (dom H) H as Q) : NewL (dom H1) H1 as Q := fun p xs H' s' n e a =>
  k p xs H' (s.trans s') (s.free n) e (all2_mono (off_less fun b z => by
    rcases z with z | z
    · exact .inl (dom_same s z)
    · exact .inr z) a)
theorem newR_up {H H1 : Hp} {r : Row} {Q : VK} (s : Same H H1) (k : NewR H r Q) : NewR H1 r Q := fun p H' s' n e => k p H' (s.trans s') (s.free n) e
theorem ws_cm {W A : Mat} (h : Ws W) (i j k : Nat) : CMulG (ent W i k) (ent A j k) := .l (by
  have := h i k
  have e : (2 : Nat) ^ 64 = 18446744073709551616 := by decide
  unfold Bd
  omega)
/-- rows and weights of a cut -/
structure CutPre (w : Nat) (A W : Mat) : Prop where
  wa : Wid w A
  ww : Wid w W
  w4 : w ≤ 4
  n3 : W.length ≤ 3
  la : A.length ≤ 100
  ws : Ws W
  sz : Le (2 ^ 3108) A
theorem CutPre.st {w : Nat} {A W : Mat} (h : CutPre w A W) : StPre W.length (W.length + w) 3112 (shows A W) := by
  have := h.w4
  have := h.n3
  have := h.la
  exact ⟨shows_wid h.wa, by omega, by omega, by omega, by unfold shows; rw [List.length_map]; omega, .inl ⟨shows_size h.wa h.w4 h.ws h.sz, lb_cut1 h.n3⟩⟩
theorem CutPre.st2 {w : Nat} {A W : Mat} (h : CutPre w A W) : StPre w w 199231 (cutR A W) := by
  have := h.w4
  have hl := (stF_inv (shows_wid (W := W) h.wa) (shows_size h.wa h.w4 h.ws h.sz) W.length).2.2.2.2.1
  have h2 : (shows A W).length = A.length := by unfold shows; rw [List.length_map]
  have := h.la
  exact ⟨cutR_wid h.wa, Nat.le_refl _, by omega, by omega, by unfold cutR drp; rw [List.length_map]; omega, .inl ⟨cutR_size h.wa h.w4 h.ws h.n3 h.sz, lb_cut2 h.w4⟩⟩
theorem CutPre.red {w : Nat} {A W : Mat} {y : Row} (h : CutPre w A W) (hy : y.length = W.length) (hb : RB (2 ^ 100) y) : RedPre (stF (shows A W) W.length).1 (y ++ zr w) 100 398464 := by
  have := h.w4
  have := h.n3
  obtain ⟨h1, _, h3, _, _, h6, _⟩ := stF_inv (shows_wid (W := W) h.wa) (shows_size h.wa h.w4 h.ws h.sz) W.length
  obtain ⟨L, q⟩ := sts (shows_wid (W := W) h.wa) W.length (Nat.le_add_right _ _)
  have hs := sbit_le (3108 + 4) W.length
  have hm := lbit_mono (3108 + 4) (n := W.length) (k := 3) h.n3
  have e : lbit (3108 + 4) 3 = 199231 := by decide
  have el : (y ++ zr w).length = W.length + w := by rw [List.length_append, zr_length, hy]
  refine ⟨by rw [el]; exact h1, by omega, by omega, fun i hi => ?_, h3.mono (by omega), fun j => ?_, ?_⟩
  · obtain ⟨p, _, hp, _⟩ := q.h.lead hi
    exact ⟨p, hp⟩
  · rw [at0_app]
    split
    · exact hb j
    · rw [at0_zr]; exact Nat.zero_le _
  · have : (stF (shows A W) W.length).1.length * (398464 + 1) ≤ 3 * (398464 + 1) := Nat.mul_le_mul_right _ (by omega)
    omega
def sp_cut_by (Z : Ctx) : Sp := fun vs H Q _ => ∃ v u, ∃ w : Nat, ∃ A W : Mat, vs = [.int (w : Int), v, u] ∧ rep H v A ∧ rep H u W ∧ CutPre w A W ∧ NewL (dom H) H (cutM A W w) Q
abbrev r_cut_by (Z : Ctx) : TS := (tSeq (tAsg (tCB (rLenG Z.K) (tCons (tVar 2) tNil)) (gName 3)) (tSeq (tAsg (tOp (rIxGT Z.K) (tCall (sp_stairs_and_rest Z) [] E0 (tCons (tCall (sp_shown_rows Z) [] E0 (tCons (tVar 1) (tCons (tVar 2) tNil))) (tCons (tVar 3) tNil))) (tC (.int 1))) (gName 4)) (tRet (tCall (sp_stairs_of Z) [] E0 (tCons (tLc (iList Z.K (tVar 4)) (gName 5) tYes (tSl (rSlL Z.K) (tVar 5) (tPart (tVar 3)) tNoPart) [5]) (tCons (tVar 0) tNil))))))
theorem ln_cut_by : sp_cut_by Z vs H Q E → vs.length = 3 := by rintro ⟨_, _, _, _, _, rfl, _⟩; rfl
abbrev nm_cut_by : List Str := ["width", "rows", "weights_list", "many", "left", "row"]
theorem rd_cut_by (h : sp_cut_by Z vs H Q E) : r_cut_by Z (ends Q) (L2.start nm_cut_by vs) H := by
  obtain ⟨v, u, w, A, W, rfl, hA, ⟨m, ys, rfl, hm, hb⟩, pre, k⟩ := h
  have h2 := hb.len
  have w4 := pre.w4
  have n3 := pre.n3
  have la := pre.la
  have hW : rep H (.ref m) W := ⟨m, ys, rfl, hm, hb⟩
  show r_cut_by Z (ends Q) [some (.int w), some v, some (.ref m), none, none, none] H
  unfold r_cut_by ends
  walk_at "rd"
  refine ⟨v, .ref m, w, A, W, rfl, hA, hW, pre.wa, pre.ww, by omega, by omega, by omega, ws_cm pre.ws, fun p1 x1 H1 s1 n1 e1 a1 => ?_⟩
  walk_at "rd"
  rw [h2]
  refine ⟨.ref p1, W.length, W.length + w, 3112, shows A W, rfl, ⟨p1, x1, rfl, e1, all2_mono off_same a1⟩, pre.st, fun p s l xs zs H2 s2 np ns nl nsl ep es el as al => ?_⟩
  walk_at "rd"
  refine w_ixTat 1 1 rfl ep rfl ?_
  have ll := al.len
  have hl := pre.st2.2.2.2.2.1
  unfold cutR drp at hl
  rw [List.length_map] at hl
  walk_at "rd"
  refine lcLT (xs := zs) (fun R h => by walk_at "rd"; exact h) (dom H2) (fun i => ((stF (shows A W) W.length).2.getD i []).drop W.length) (SqL.of el) (by omega) (fun _ h => h) (fun _ => rfl) (fun i x H3 M1 hi s3 so dm R k3 => ?_) ?_
  · have hi2 := (List.getElem?_eq_some_iff.mp hi).1
    obtain ⟨q, g1, g2⟩ := mat_at al (i := i) (by omega)
    rw [g1] at hi
    cases hi
    have g3 := s3 _ _ (off_same _ _ g2)
    show tSl _ _ _ _ [some (.int w), some v, some (.ref m), some (.int (W.length : Int)), some (.ref l), some (.ref q)] H3 R
    walk_at "rd"
    refine w_sl g3 fun l4 n4 => ?_
    rw [cut_from, ← List.map_drop]
    exact k3 _ _ (same_new n4) (rep_row_of (off_in (fun z => dm _ z n4) upd_same))
  · have e : (List.range zs.length).map (fun i => ((stF (shows A W) W.length).2.getD i []).drop W.length) = cutR A W := by
      rw [ll]
      unfold cutR drp
      conv => rhs; rw [← list_eq_range (stF (shows A W) W.length).2, List.map_map]
      rfl
    rw [e]
    intro p5 x5 H5 s5 n5 e5 a5
    walk_at "rd"
    exact ⟨.ref p5, w, w, 199231, cutR A W, rfl, ⟨p5, x5, rfl, e5, all2_mono off_same a5⟩, pre.st2, newL_up (s1.trans (s2.trans s5)) k⟩
def sp_law_cut (Z : Ctx) : Sp := fun vs H Q _ => ∃ v u, ∃ w : Nat, ∃ A W : Mat, vs = [v, .int (w : Int), u] ∧ rep H v A ∧ rep H u W ∧ CutPre w A W ∧ NewL (dom H) H (cutM A W w) Q
abbrev r_law_cut (Z : Ctx) : TS := (tSeq (tAsg (tCB (rLenG Z.K) (tCons (tVar 2) tNil)) (gName 3)) (tSeq (tAsg (tOp (rIxG Z.K) (tCall (sp_law_stairs_rest Z) [] E0 (tCons (tCall (sp_law_shows Z) [] E0 (tCons (tVar 0) (tCons (tVar 2) tNil))) (tCons (tVar 3) tNil))) (tC (.int 1))) (gName 4)) (tRet (tCall (sp_law_stairs Z) [] E0 (tCons (tLc (iList Z.K (tVar 4)) (gName 5) tYes (tSl (rSlL Z.K) (tVar 5) (tPart (tVar 3)) tNoPart) [5]) (tCons (tVar 1) tNil))))))
theorem ln_law_cut : sp_law_cut Z vs H Q E → vs.length = 3 := by rintro ⟨_, _, _, _, _, rfl, _⟩; rfl
abbrev nm_law_cut : List Str := ["rows", "width", "weights_list", "many", "left", "row"]
theorem rd_law_cut (h : sp_law_cut Z vs H Q E) : r_law_cut Z (ends Q) (L2.start nm_law_cut vs) H := by
  obtain ⟨v, u, w, A, W, rfl, hA, ⟨m, ys, rfl, hm, hb⟩, pre, k⟩ := h
  have h2 := hb.len
  have w4 := pre.w4
  have n3 := pre.n3
  have la := pre.la
  have hW : rep H (.ref m) W := ⟨m, ys, rfl, hm, hb⟩
  show r_law_cut Z (ends Q) [some v, some (.int w), some (.ref m), none, none, none] H
  unfold r_law_cut ends
  walk_at "rd"
  refine ⟨v, .ref m, w, A, W, rfl, hA, hW, pre.wa, pre.ww, by omega, by omega, by omega, ws_cm pre.ws, fun p1 x1 H1 s1 n1 e1 a1 => ?_⟩
  walk_at "rd"
  rw [h2]
  refine ⟨.ref p1, W.length, W.length + w, 3112, shows A W, rfl, ⟨p1, x1, rfl, e1, all2_mono off_same a1⟩, pre.st, fun p s l xs zs H2 s2 np ns nl nsl ep es el as al => ?_⟩
  walk_at "rd"
  refine w_ixAt 1 1 rfl ep rfl ?_
  have ll := al.len
  have hl := pre.st2.2.2.2.2.1
  unfold cutR drp at hl
  rw [List.length_map] at hl
  walk_at "rd"
  refine lcLT (xs := zs) (fun R h => by walk_at "rd"; exact h) (dom H2) (fun i => ((stF (shows A W) W.length).2.getD i []).drop W.length) (SqL.of el) (by omega) (fun _ h => h) (fun _ => rfl) (fun i x H3 M1 hi s3 so dm R k3 => ?_) ?_
  · have hi2 := (List.getElem?_eq_some_iff.mp hi).1
    obtain ⟨q, g1, g2⟩ := mat_at al (i := i) (by omega)
    rw [g1] at hi
    cases hi
    have g3 := s3 _ _ (off_same _ _ g2)
    show tSl _ _ _ _ [some v, some (.int w), some (.ref m), some (.int (W.length : Int)), some (.ref l), some (.ref q)] H3 R
    walk_at "rd"
    refine w_sl g3 fun l4 n4 => ?_
    rw [cut_from, ← List.map_drop]
    exact k3 _ _ (same_new n4) (rep_row_of (off_in (fun z => dm _ z n4) upd_same))
  · have e : (List.range zs.length).map (fun i => ((stF (shows A W) W.length).2.getD i []).drop W.length) = cutR A W := by
      rw [ll]
      unfold cutR drp
      conv => rhs; rw [← list_eq_range (stF (shows A W) W.length).2, List.map_map]
      rfl
    rw [e]
    intro p5 x5 H5 s5 n5 e5 a5
    walk_at "rd"
    exact ⟨.ref p5, w, w, 199231, cutR A W, rfl, ⟨p5, x5, rfl, e5, all2_mono off_same a5⟩, pre.st2, newL_up (s1.trans (s2.trans s5)) k⟩
/-- a row is told exactly if one is there -/
def Tells (A W : Mat) (w : Nat) (y : Row) (H : Hp) (Q : VK) : Prop := (isz ((leftOf A W w y).take W.length) = true → NewR H (toldOf A W w y) Q) ∧ (isz ((leftOf A W w y).take W.length) = false → ∀ H', Same H H' → Q .non H')
def sp_shown_row (Z : Ctx) : Sp := fun vs H Q _ => ∃ v u x, ∃ w : Nat, ∃ A W : Mat, ∃ y : Row, vs = [.int (w : Int), v, u, x] ∧ rep H v A ∧ rep H u W ∧ rep H x y ∧ CutPre w A W ∧ y.length = W.length ∧ RB (2 ^ 100) y ∧ Tells A W w y H Q
abbrev r_shown_row (Z : Ctx) : TS := (tSeq (tAsg (tCB (rLenG Z.K) (tCons (tVar 2) tNil)) (gName 4)) (tSeq (tAsg (tOp (rIxGT Z.K) (tCall (sp_stairs_and_rest Z) [] E0 (tCons (tCall (sp_shown_rows Z) [] E0 (tCons (tVar 1) (tCons (tVar 2) tNil))) (tCons (tVar 4) tNil))) (tC (.int 0))) (gName 5)) (tSeq (tAsg (tCall (sp_reduced_row Z) [] E0 (tCons (tVar 5) (tCons (tOp rCat (tCB (rLstG Z.K) (tCons (tVar 3) tNil)) (tCall (sp_zero_row Z) [] E0 (tCons (tVar 0) tNil))) tNil))) (gName 6)) (tSeq (tIfS (tNot (tB (tCall (sp_is_zero Z) [] E0 (tCons (tSl (rSlL Z.K) (tVar 6) tNoPart (tPart (tVar 4))) tNil)))) (tRet (tC .non)) tNext) (tRet (tCall (sp_scaled_row Z) [] E0 (tCons (tUn uNegI (tC (.int 1))) (tCons (tSl (rSlL Z.K) (tVar 6) (tPart (tVar 4)) tNoPart) tNil))))))))
theorem ln_shown_row : sp_shown_row Z vs H Q E → vs.length = 4 := by rintro ⟨_, _, _, _, _, _, _, rfl, _⟩; rfl
abbrev nm_shown_row : List Str := ["width", "rows", "weights_list", "wanted", "many", "stairs", "left"]
theorem rd_shown_row (h : sp_shown_row Z vs H Q E) : r_shown_row Z (ends Q) (L2.start nm_shown_row vs) H := by
  obtain ⟨v, u, x, w, A, W, y, rfl, hA, ⟨m, ys, rfl, hm, hb⟩, hx, pre, hy, hyb, k1, k2⟩ := h
  obtain ⟨px, rfl, hpx⟩ := rep_row.mp hx
  have h2 := hb.len
  have w4 := pre.w4
  have n3 := pre.n3
  have la := pre.la
  have hW : rep H (.ref m) W := ⟨m, ys, rfl, hm, hb⟩
  show r_shown_row Z (ends Q) [some (.int w), some v, some (.ref m), some (.ref px), none, none, none] H
  unfold r_shown_row ends
  walk_at "rd"
  refine ⟨v, .ref m, w, A, W, rfl, hA, hW, pre.wa, pre.ww, by omega, by omega, by omega, ws_cm pre.ws, fun p1 x1 H1 s1 n1 e1 a1 => ?_⟩
  walk_at "rd"
  rw [h2]
  refine ⟨.ref p1, W.length, W.length + w, 3112, shows A W, rfl, ⟨p1, x1, rfl, e1, all2_mono off_same a1⟩, pre.st, fun p s l xs zs H2 s2 np ns nl nsl ep es el as al => ?_⟩
  walk_at "rd"
  refine w_ixTat 0 0 rfl ep rfl ?_
  have hpx2 := s2 _ _ (s1 _ _ hpx)
  walk_at "rd"
  refine w_lst hpx2 fun l3 n3' => ?_
  have s3 := same_new (o := .lst (y.map V.int)) n3'
  have e3 : (upd H2 l3 (.lst (y.map V.int))) l3 = some (.lst (y.map V.int)) := upd_same
  generalize upd H2 l3 (.lst (y.map V.int)) = H3 at s3 e3
  walk_at "rd"
  refine ⟨w, rfl, by omega, fun p4 H4 s4 n4 e4 => ?_⟩
  walk_at "rd"
  refine w_cat (s4 _ _ e3) e4 (by rw [lenV, lenV]; simp; omega) fun p5 n5 => ?_
  rw [← List.map_append]
  have s5 := same_new (o := .lst ((y ++ List.replicate w (0 : Int)).map V.int)) n5
  have e5 : (upd H4 p5 (.lst ((y ++ List.replicate w (0 : Int)).map V.int))) p5 = some (.lst ((y ++ zr w).map V.int)) := upd_same
  generalize upd H4 p5 (.lst ((y ++ List.replicate w (0 : Int)).map V.int)) = H5 at s5 e5
  have s25 := s3.trans (s4.trans s5)
  walk_at "rd"
  refine ⟨.ref s, .ref p5, (stF (shows A W) W.length).1, y ++ zr w, 100, 398464, rfl, ⟨s, xs, rfl, s25 _ _ es, all2_mono (off_same.trans s25) as⟩, rep_row_of e5, pre.red hy hyb, fun p6 H6 s6 n6 e6 => ?_⟩
  have e6 : H6 p6 = some (.lst ((leftOf A W w y).map V.int)) := e6
  have s06 := s1.trans (s2.trans (s25.trans s6))
  have ll := (left_facts pre.wa hy).1
  walk_at "rd"
  refine w_sl e6 fun l7 n7 => ?_
  rw [cut_to, ← List.map_take]
  walk_at "rd"
  refine ⟨.ref l7, (leftOf A W w y).take W.length, rfl, rep_row_of upd_same, fun H8 s8 => ?_⟩
  have s08 := s06.trans ((same_new n7).trans s8)
  have e8 := s8 _ _ (same_new (o := .lst (((leftOf A W w y).take W.length).map V.int)) n7 _ _ e6)
  cases ez : isz ((leftOf A W w y).take W.length) with
  | false =>
    have ez' : ((leftOf A W w y).take W.length).all (fun x => x == 0) = false := ez
    rw [ez']
    walk_at "rd"
    exact k2 ez H8 s08
  | true =>
    have ez' : ((leftOf A W w y).take W.length).all (fun x => x == 0) = true := ez
    rw [ez']
    walk_at "rd"
    refine w_sl e8 fun l9 n9 => ?_
    rw [cut_from, ← List.map_drop]
    walk_at "rd"
    exact ⟨-1, .ref l9, (leftOf A W w y).drop W.length, rfl, rep_row_of upd_same, by rw [List.length_drop]; omega, fun i => .l (bdc (by decide)), newR_up (s08.trans (same_new n9)) (k1 ez)⟩
def sp_law_shown (Z : Ctx) : Sp := fun vs H Q _ => ∃ v u x, ∃ w : Nat, ∃ A W : Mat, ∃ y : Row, vs = [v, .int (w : Int), u, x] ∧ rep H v A ∧ rep H u W ∧ rep H x y ∧ CutPre w A W ∧ y.length = W.length ∧ RB (2 ^ 100) y ∧ Tells A W w y H Q
abbrev r_law_shown (Z : Ctx) : TS := (tSeq (tAsg (tCB (rLenG Z.K) (tCons (tVar 2) tNil)) (gName 4)) (tSeq (tAsg (tCall (sp_law_stairs Z) [] E0 (tCons (tCall (sp_law_shows Z) [] E0 (tCons (tVar 0) (tCons (tVar 2) tNil))) (tCons (tVar 4) tNil))) (gName 5)) (tSeq (tAsg (tCall (sp_law_reduced Z) [] E0 (tCons (tVar 5) (tCons (tOp rCat (tCB (rLstG Z.K) (tCons (tVar 3) tNil)) (tOp rRep (tLst (tCons (tC (.int 0)) tNil)) (tVar 1))) tNil))) (gName 6)) (tSeq (tIfS (tNot (tB (tCall (sp_law_zero Z) [] E0 (tCons (tSl (rSlL Z.K) (tVar 6) tNoPart (tPart (tVar 4))) tNil)))) (tRet (tC .non)) tNext) (tRet (tLc (iList Z.K (tSl (rSlL Z.K) (tVar 6) (tPart (tVar 4)) tNoPart)) (gName 7) tYes (tUn uNegI (tVar 7)) [7]))))))
theorem ln_law_shown : sp_law_shown Z vs H Q E → vs.length = 4 := by rintro ⟨_, _, _, _, _, _, _, rfl, _⟩; rfl
abbrev nm_law_shown : List Str := ["rows", "width", "weights_list", "wanted", "many", "stairs", "left", "one"]
theorem rd_law_shown (h : sp_law_shown Z vs H Q E) : r_law_shown Z (ends Q) (L2.start nm_law_shown vs) H := by
  obtain ⟨v, u, x, w, A, W, y, rfl, hA, ⟨m, ys, rfl, hm, hb⟩, hx, pre, hy, hyb, k1, k2⟩ := h
  obtain ⟨px, rfl, hpx⟩ := rep_row.mp hx
  have h2 := hb.len
  have w4 := pre.w4
  have n3 := pre.n3
  have la := pre.la
  have hW : rep H (.ref m) W := ⟨m, ys, rfl, hm, hb⟩
  show r_law_shown Z (ends Q) [some v, some (.int w), some (.ref m), some (.ref px), none, none, none, none] H
  unfold r_law_shown ends
  walk_at "rd"
  refine ⟨v, .ref m, w, A, W, rfl, hA, hW, pre.wa, pre.ww, by omega, by omega, by omega, ws_cm pre.ws, fun p1 x1 H1 s1 n1 e1 a1 => ?_⟩
  walk_at "rd"
  rw [h2]
  refine ⟨.ref p1, W.length, W.length + w, 3112, shows A W, rfl, ⟨p1, x1, rfl, e1, all2_mono off_same a1⟩, pre.st, fun s xs H2 s2 ns es as => ?_⟩
  have hpx2 := s2 _ _ (s1 _ _ hpx)
  walk_at "rd"
  refine w_lst hpx2 fun l3 n3' => ?_
  have s3 := same_new (o := .lst (y.map V.int)) n3'
  have e3 : (upd H2 l3 (.lst (y.map V.int))) l3 = some (.lst (y.map V.int)) := upd_same
  generalize upd H2 l3 (.lst (y.map V.int)) = H3 at s3 e3
  walk_at "rd"
  refine ⟨by decide, fun l4 n4 => ?_⟩
  have s4 := same_new (o := .lst [V.int 0]) n4
  have e4 : (upd H3 l4 (.lst [V.int 0])) l4 = some (.lst [V.int 0]) := upd_same
  generalize upd H3 l4 (.lst [V.int 0]) = H4 at s4 e4
  walk_at "rd"
  refine w_rep e4 (by omega) fun l4b n4b => ?_
  have s4b := same_new (o := .lst ((List.replicate w (0 : Int)).map V.int)) n4b
  have e4b : (upd H4 l4b (.lst ((List.replicate w (0 : Int)).map V.int))) l4b = some (.lst ((List.replicate w (0 : Int)).map V.int)) := upd_same
  generalize upd H4 l4b (.lst ((List.replicate w (0 : Int)).map V.int)) = H4b at s4b e4b
  refine w_cat (s4b _ _ (s4 _ _ e3)) e4b (by rw [lenV, lenV]; simp; omega) fun p5 n5 => ?_
  rw [← List.map_append]
  have s5 := same_new (o := .lst ((y ++ List.replicate w (0 : Int)).map V.int)) n5
  have e5 : (upd H4b p5 (.lst ((y ++ List.replicate w (0 : Int)).map V.int))) p5 = some (.lst ((y ++ zr w).map V.int)) := upd_same
  generalize upd H4b p5 (.lst ((y ++ List.replicate w (0 : Int)).map V.int)) = H5 at s5 e5
  have s25 := s3.trans (s4.trans (s4b.trans s5))
  walk_at "rd"
  refine ⟨.ref s, .ref p5, (stF (shows A W) W.length).1, y ++ zr w, 100, 398464, rfl, ⟨s, xs, rfl, s25 _ _ es, all2_mono (off_same.trans s25) as⟩, rep_row_of e5, pre.red hy hyb, fun p6 H6 s6 n6 e6 => ?_⟩
  have e6 : H6 p6 = some (.lst ((leftOf A W w y).map V.int)) := e6
  have s06 := s1.trans (s2.trans (s25.trans s6))
  have ll := (left_facts pre.wa hy).1
  walk_at "rd"
  refine w_sl e6 fun l7 n7 => ?_
  rw [cut_to, ← List.map_take]
  walk_at "rd"
  refine ⟨.ref l7, (leftOf A W w y).take W.length, rfl, rep_row_of upd_same, by rw [List.length_take]; omega, fun H8 s8 => ?_⟩
  have s08 := s06.trans ((same_new n7).trans s8)
  have e8 := s8 _ _ (same_new (o := .lst (((leftOf A W w y).take W.length).map V.int)) n7 _ _ e6)
  cases ez : isz ((leftOf A W w y).take W.length) with
  | false =>
    have ez' : ((leftOf A W w y).take W.length).all (fun x => x == 0) = false := ez
    rw [ez']
    walk_at "rd"
    exact k2 ez H8 s08
  | true =>
    have ez' : ((leftOf A W w y).take W.length).all (fun x => x == 0) = true := ez
    rw [ez']
    walk_at "rd"
    have cf := cut_from ((leftOf A W w y).map V.int) W.length
    have ld : ((leftOf A W w y).drop W.length).length = w := by rw [List.length_drop]; omega
    refine lcLrS (K := Z.K) (G := fun q H9 => H8 q = none ∧ H9 = upd H8 q (.lst (((leftOf A W w y).drop W.length).map V.int))) (((leftOf A W w y).drop W.length).map V.int) (fun R h => ?_) (fun i => - at0 ((leftOf A W w y).drop W.length) i) (fun q H9 g => ?_) (by rw [lenV]; omega) (fun _ => rfl) (fun i z H9 hi R k9 => ?_) (fun q H9 g => ?_)
    · walk_at "rd"
      refine w_sl e8 fun q n9 => ?_
      rw [cf, ← List.map_drop]
      exact ⟨q, rfl, ⟨_, SqL.of upd_same⟩, h q _ ⟨n9, rfl⟩⟩
    · obtain ⟨_, rfl⟩ := g
      exact SqL.of upd_same
    · obtain ⟨t, ht, rfl⟩ := row_at hi
      obtain rfl := at0_some ht
      show tUn _ _ [some v, some (.int w), some (.ref m), some (.ref px), some (.int (W.length : Int)), some (.ref s), some (.ref p6), some (.int (at0 ((leftOf A W w y).drop W.length) i))] H9 R
      walk_at "rd"
      exact k9 _ (.refl _)
    · obtain ⟨n9, rfl⟩ := g
      have et : (List.range (((leftOf A W w y).drop W.length).map V.int).length).map (fun i => - at0 ((leftOf A W w y).drop W.length) i) = toldOf A W w y := by
        rw [map_at0 _ fun x => -x]
        unfold toldOf
        exact List.map_congr_left fun x _ => by omega
      rw [et]
      exact newR_up (s08.trans (same_new n9)) (k1 ez)
end
end G
end
section
set_option Elab.async false
set_option linter.all false
set_option maxRecDepth 100000
namespace G
open PySem L2 PyProof.Rows
local macro_rules | `(tactic| walk_at "rd") => `(tactic| repeat (first
  | (with_reducible refine v_seq ?_)
  | (with_reducible refine v_asg ?_)
  | (with_reducible refine w_cons ?_)
  | (with_reducible refine w_nil ?_)
  | (with_reducible refine w_op ?_)
  | (with_reducible refine w_c ?_)
  | (with_reducible refine w_I0 ?_)
  | (with_reducible refine w_cb ?_)
  | (with_reducible refine w_call ?_)
  | (with_reducible refine v_ret ?_)
  | (with_reducible refine v_next ?_)
  | (with_reducible refine w_ixR (by assumption) (by assumption) ?_)
  | (with_reducible refine w_ix (by assumption) (by assumption) ?_)
  | (with_reducible refine w_test ?_)
  | (with_reducible refine w_tB ?_)
  | (with_reducible refine w_and ?_)
  | (with_reducible refine w_or ?_)
  | (with_reducible refine w_not ?_)
  | (with_reducible refine w_ifE ?_)
  | (with_reducible refine v_ifS ?_)
  | (with_reducible refine w_tt ?_)
  | (with_reducible refine w_ff ?_)
  | (with_reducible refine w_eqI ?_)
  | (with_reducible refine w_neI ?_)
  | (with_reducible refine w_U ?_)
  | (with_reducible refine w_un ?_)
  | (with_reducible refine w_len (by assumption) ?_)
  | (with_reducible refine w_abs ?_)
  | (with_reducible refine w_int ?_)
  | (with_reducible refine w_isN0 ?_)
  | (with_reducible refine w_isN1 (by assumption) ?_)
  | (with_reducible refine w_isN1 ne_in ?_)
  | (with_reducible refine w_isN1 ne_rn ?_)
  | (with_reducible refine w_notN0 ?_)
  | (with_reducible refine w_notN1 ne_in ?_)
  | (with_reducible refine w_notN1 ne_rn ?_)
  | (with_reducible refine v_lst ?_)
  | (with_reducible refine v_tup ?_)
  | (with_reducible refine w_notN1 (by assumption) ?_)
  | (with_reducible refine v_drop ?_)
  | (with_reducible refine w_bm ?_)
  | (with_reducible refine v_for ?_)
  | (with_reducible refine v_rng1 ?_)
  | (with_reducible refine v_rng2 ?_)
  | (with_reducible refine v_list ?_)
  | (with_reducible refine w_sub ?_)
  | (with_reducible refine v_ip ?_)
  | (with_reducible refine v_augS ?_)
  | (with_reducible refine v_retN ?_)
  | (with_reducible refine w_yes ?_)
  | (with_reducible refine tv_0 ?_)
  | (with_reducible refine nv_0 ?_)
  | (with_reducible refine av_0 ?_)
  | (with_reducible refine tv_1 ?_)
  | (with_reducible refine nv_1 ?_)
  | (with_reducible refine av_1 ?_)
  | (with_reducible refine tv_2 ?_)
  | (with_reducible refine nv_2 ?_)
  | (with_reducible refine av_2 ?_)
  | (with_reducible refine tv_3 ?_)
  | (with_reducible refine nv_3 ?_)
  | (with_reducible refine av_3 ?_)
  | (with_reducible refine tv_4 ?_)
  | (with_reducible refine nv_4 ?_)
  | (with_reducible refine av_4 ?_)
  | (with_reducible refine tv_5 ?_)
  | (with_reducible refine nv_5 ?_)
  | (with_reducible refine av_5 ?_)
  | (with_reducible refine tv_6 ?_)
  | (with_reducible refine nv_6 ?_)
  | (with_reducible refine av_6 ?_)
  | (with_reducible refine tv_7 ?_)
  | (with_reducible refine nv_7 ?_)
  | (with_reducible refine av_7 ?_)
  | (with_reducible refine tv_8 ?_)
  | (with_reducible refine nv_8 ?_)
  | (with_reducible refine av_8 ?_)
  | (with_reducible refine tv_9 ?_)
  | (with_reducible refine nv_9 ?_)
  | (with_reducible refine av_9 ?_)
  | (with_reducible refine tv_10 ?_)
  | (with_reducible refine nv_10 ?_)
  | (with_reducible refine av_10 ?_)
  | (with_reducible refine tv_11 ?_)
  | (with_reducible refine nv_11 ?_)
  | (with_reducible refine av_11 ?_)
  | (with_reducible refine tv_12 ?_)
  | (with_reducible refine nv_12 ?_)
  | (with_reducible refine av_12 ?_)
  | (with_reducible refine tv_13 ?_)
  | (with_reducible refine nv_13 ?_)
  | (with_reducible refine av_13 ?_)
  | (with_reducible refine tv_14 ?_)
  | (with_reducible refine nv_14 ?_)
  | (with_reducible refine av_14 ?_)
  | (with_reducible refine tv_15 ?_)
  | (with_reducible refine nv_15 ?_)
  | (with_reducible refine av_15 ?_)
  | (with_reducible refine ⟨_, rfl, ⟨_, SqL.of (by assumption)⟩, ?_⟩)
  | (with_reducible refine ⟨_, rfl, (by omega), (by omega), ?_⟩)
  | (with_reducible refine ⟨w_tyL (by assumption), ?_⟩)
  | (with_reducible refine w_isiII ?_)
  | (with_reducible refine w_isiIB ?_)
  | (with_reducible refine w_isiBB ?_)
  | (with_reducible refine w_isiBI ?_)
  | (with_reducible refine w_isiNL ?_)
  | (with_reducible refine w_isiLL (by assumption) ?_)
  | (with_reducible refine v_sl ?_)
  | (with_reducible refine w_nff ?_)
  | (with_reducible refine w_ntt ?_)
  | (with_reducible refine v_chain ?_)
  | (with_reducible refine v_andV ?_)
  | (with_reducible refine v_orV ?_)
  | (with_reducible refine v_notV ?_)
  | (with_reducible refine v_noP ?_)
  | (with_reducible refine v_part ?_)
  | (with_reducible refine v_fld ?_)
  | (with_reducible refine v_sfld ?_)
  | (with_reducible refine ⟨_, (rfl : V.bl _ = V.bl _), ?_⟩)
  | (with_reducible refine ⟨_, (rfl : V.ref _ = V.ref _), ?_⟩)
  | (with_reducible refine ⟨_, (rfl : [V.int _] = [V.int _]), ?_⟩)
  | (with_reducible refine ⟨_, (rfl : V.int _ = V.int _), ?_⟩)
  | (with_reducible refine ⟨⟨_, SqL.of (by assumption)⟩, ?_⟩)
  | (with_reducible refine ⟨(by (first | omega | (rw [lenV]; omega)) : -(2 ^ 62) ≤ _), (by first | omega | (rw [lenV]; omega)), ?_⟩)
  | (with_reducible refine v_meth ?_)
  | (with_reducible refine v_make ?_)
  | (with_reducible refine w_neBB ?_)
  | (with_reducible refine w_eqBB ?_)
  | (with_reducible refine w_isiRI (by assumption) ?_)
  ))
section
variable {Z : Ctx} {vs : List V} {H : Hp} {Q : VK} {E : XK}
theorem at_last {xs : List V} {v : V} : atI (xs ++ [v]) (-1) = some v := by
  have h : (xs ++ [v]).length = xs.length + 1 := by simp
  have e : (-1 + ((xs.length + 1 : Nat) : Int)).toNat = xs.length := by omega
  unfold atI ixN
  rw [h, if_neg (by decide), if_pos (by omega), Option.bind_some, e]
  simp
theorem w_last {K : PySem.W.Frag} {p : Addr} {xs : List V} {v : V} (h : H p = some (.lst (xs ++ [v]))) (q : Q v H) : rIxL K (.ref p) (.int (-1)) H Q := ⟨p, _, -1, v, rfl, rfl, SqL.of h, at_last, q⟩
/-- the amounts of a row that is held -/
def sp_stair_amounts (Z : Ctx) : Sp := fun vs H Q _ => ∃ v u, ∃ S : Mat, ∃ r : Row, ∃ a b w : Nat, ∃ L : List Nat, vs = [v, u] ∧ rep H v S ∧ rep H u r ∧ RedPre S r a b ∧ Hs w S L ∧ Spn w S r ∧ NewR H (coor S r) Q
abbrev r_stair_amounts (Z : Ctx) : TS := (tSeq (tAsg (tCB (rLstG Z.K) (tCons (tVar 1) tNil)) (gName 2)) (tSeq (tAsg (tLst tNil) (gName 3)) (tSeq (tFor (iList Z.K (tVar 0)) (gName 4) (tSeq (tAsg (tCall (sp_lead_place Z) [] E0 (tCons (tVar 4) tNil)) (gName 5)) (tSeq (tDrop (tBM Z.K "list" rAppend (tVar 3) (tCons (tOp rDivI (tOp (rIxG Z.K) (tVar 2) (tVar 5)) (tOp (rIxG Z.K) (tVar 4) (tVar 5))) tNil))) (tAsg (tCall (sp_lessened_row Z) [] E0 (tCons (tVar 2) (tCons (tOp (rIxL Z.K) (tVar 3) (tUn uNegI (tC (.int 1)))) (tCons (tVar 4) tNil)))) (gName 2))))) (tRet (tIf (tB (tCall (sp_is_zero Z) [] E0 (tCons (tVar 2) tNil))) (tVar 3) (tC .non))))))
theorem ln_stair_amounts : sp_stair_amounts Z vs H Q E → vs.length = 2 := by rintro ⟨_, _, _, _, _, _, _, _, rfl, _⟩; rfl
abbrev nm_stair_amounts : List Str := ["stairs", "row", "left", "amounts", "stair", "place"]
theorem rd_stair_amounts (h : sp_stair_amounts Z vs H Q E) : r_stair_amounts Z (ends Q) (L2.start nm_stair_amounts vs) H := by
  obtain ⟨v, u, S, r, a, b, w, L, rfl, ⟨l, xs, rfl, hl, ha⟩, hr, ⟨hW, hr1, hS1, hlead, hb, hrb, hsz⟩, hH, hin, k⟩ := h
  obtain ⟨p, rfl, hp⟩ := rep_row.mp hr
  show r_stair_amounts Z (ends Q) [some (.ref l), some (.ref p), none, none, none, none] H
  unfold r_stair_amounts ends
  have hlen := ha.len
  walk_at "rd"
  refine w_lst hp fun q0 hq0 => ?_
  have s0 := same_new (o := .lst (r.map V.int)) hq0
  have e0 : (upd H q0 (.lst (r.map V.int))) q0 = some (.lst (r.map V.int)) := upd_same
  generalize upd H q0 (.lst (r.map V.int)) = H0 at s0 e0
  walk_at "rd"
  refine ⟨by decide, fun D nD => ?_⟩
  have s1 := same_new (o := .lst []) nD
  have nD0 := s0.free nD
  have e1 : (upd H0 D (.lst [])) D = some (.lst []) := upd_same
  have f1 := s1 _ _ e0
  have nq : q0 ≠ D := fun z => by rw [z, nD] at e0; cases e0
  generalize upd H0 D (.lst []) = H1 at s1 e1 f1
  have s01 := s0.trans s1
  have hl1 := s01 _ _ hl
  walk_at "rd"
  refine forL (xs := xs) (fun i σ H' => ∃ q c d, σ = [some (.ref l), some (.ref p), some (.ref q), some (.ref D), c, d] ∧ Same H H' ∧ q ≠ D ∧ H' q = some (.lst ((redF S r i).map V.int)) ∧ H' D = some (.lst (((List.range i).map (coorF S r)).map V.int))) ⟨q0, _, _, rfl, s01, nq, f1, e1⟩ (fun i σ H' _ ⟨q, c, d, e, s, _⟩ => SqL.of (s _ _ hl)) ?_ ?_
  · rintro i x σ H' hi ⟨q, c, d, rfl, s, hq, eq, eD⟩
    have hi2 := (List.getElem?_eq_some_iff.mp hi).1
    obtain ⟨q1, h1, h2⟩ := mat_at ha (i := i) (by omega)
    rw [h1] at hi
    cases hi
    have h3 := s _ _ h2
    have nq1 : q1 ≠ D := fun z => by rw [z, nD0] at h2; cases h2
    obtain ⟨z, hz⟩ := hlead i (by omega)
    obtain ⟨g1', g2'⟩ := redF_inv hW rfl hb hrb i (by omega)
    have wl := hW.get (i := i) (by omega)
    have g1 := at0_get (r := redF S r i) (i := z) (by have := hz.1; omega)
    have g2 := at0_get (r := S.getD i []) (i := z) hz.1
    have eS : redF S r (i + 1) = less (redF S r i) ((at0 (redF S r i) z).fdiv (at0 (S.getD i []) z)) (S.getD i []) := by
      rw [redF_succ (by omega)]
      unfold redStep lsd
      rw [leadPl_eq hz]
    have eC : coorF S r i = (at0 (redF S r i) z).fdiv (at0 (S.getD i []) z) := by
      unfold coorF
      rw [leadPl_eq hz]
    walk_at "rd"
    refine ⟨.ref q1, S.getD i [], z, rfl, rep_row_of h3, hz, by omega, ?_⟩
    walk_at "rd"
    refine w_I hz.2.1 ?_
    walk_at "rd"
    refine w_app eD (by rw [lenV]; simp; omega) ?_
    have e5 : (upd H' D (.lst (((List.range i).map (coorF S r)).map V.int ++ [.int ((at0 (redF S r i) z).fdiv (at0 (S.getD i []) z))]))) D = some (.lst (((List.range i).map (coorF S r)).map V.int ++ [.int ((at0 (redF S r i) z).fdiv (at0 (S.getD i []) z))])) := upd_same
    have s5 : Same H (upd H' D (.lst (((List.range i).map (coorF S r)).map V.int ++ [.int ((at0 (redF S r i) z).fdiv (at0 (S.getD i []) z))]))) := same_mut s nD0
    have f5 : (upd H' D (.lst (((List.range i).map (coorF S r)).map V.int ++ [.int ((at0 (redF S r i) z).fdiv (at0 (S.getD i []) z))]))) q = some (.lst ((redF S r i).map V.int)) := by rw [upd_ne hq]; exact eq
    have h5 : (upd H' D (.lst (((List.range i).map (coorF S r)).map V.int ++ [.int ((at0 (redF S r i) z).fdiv (at0 (S.getD i []) z))]))) q1 = some (.lst ((S.getD i []).map V.int)) := by rw [upd_ne nq1]; exact h3
    generalize upd H' D (.lst (((List.range i).map (coorF S r)).map V.int ++ [.int ((at0 (redF S r i) z).fdiv (at0 (S.getD i []) z))])) = H5 at e5 s5 f5 h5
    walk_at "rd"
    refine w_last e5 ?_
    walk_at "rd"
    refine ⟨.ref q, _, .ref q1, redF S r i, S.getD i [], rfl, rep_row_of f5, rep_row_of h5, by omega, by omega, fun j => ?_, ?_⟩
    · refine CMulG.of (bd_of (Nat.le_trans (fdiv_abs _ _) (g2' z))) (bd_of (hb i j)) ?_
      have : i * (b + 1) ≤ S.length * (b + 1) := Nat.mul_le_mul_right _ (by omega)
      omega
    intro p3 H3 s3 n3 e3
    walk_at "rd"
    refine ⟨p3, _, _, rfl, s5.trans s3, (fun z => by rw [z, e5] at n3; cases n3), by rw [eS]; exact e3, ?_⟩
    rw [List.range_succ, List.map_append, List.map_append, s3 _ _ e5]
    show _ = some (HO.lst (_ ++ [V.int (coorF S r i)]))
    rw [eC]
  · rintro σ H' ⟨q, c, d, rfl, s, hq, eq, eD⟩
    rw [hlen, redF_all] at eq
    rw [hlen] at eD
    have hz : (red S r).all (fun x => x == 0) = true := isz_iff.mpr (red_in hH hin)
    walk_at "rd"
    refine ⟨.ref q, red S r, rfl, rep_row_of eq, fun H2 s2 => ?_⟩
    rw [hz]
    walk_at "rd"
    exact k D H2 (s.trans s2) nD0 (s2 _ _ eD)
/-- the product of the leads -/
def sp_law_leads (Z : Ctx) : Sp := fun vs H Q _ => ∃ v, ∃ S : Mat, ∃ w : Nat, vs = [v] ∧ rep H v S ∧ Wid w S ∧ w ≤ 1000 ∧ S.length ≤ 1000 ∧ (∀ i, i < S.length → ∃ q, leadAt (S.getD i []) q) ∧ (∀ i, i < S.length → CMulG (prodTo i (ldF S)) (ldF S i)) ∧ ∀ H', Same H H' → Q (.int (lds S)) H'
abbrev r_law_leads (Z : Ctx) : TS := (tSeq (tAsg (tC (.int 1)) (gName 1)) (tSeq (tFor (iList Z.K (tVar 0)) (gName 2) (tAsg (tOp rMulI (tVar 1) (tOp (rIxG Z.K) (tLc (iList Z.K (tVar 2)) (gName 3) (tTest (tOp rNe (tVar 3) (tC (.int 0)))) (tVar 3) [3]) (tC (.int 0)))) (gName 1))) (tRet (tVar 1))))
theorem ln_law_leads : sp_law_leads Z vs H Q E → vs.length = 1 := by rintro ⟨_, _, _, rfl, _⟩; rfl
abbrev nm_law_leads : List Str := ["stairs", "found", "row", "one"]
theorem rd_law_leads (h : sp_law_leads Z vs H Q E) : r_law_leads Z (ends Q) (L2.start nm_law_leads vs) H := by
  obtain ⟨v, S, w, rfl, ⟨l, xs, rfl, hl, ha⟩, hW, hw, hz, hlead, hc, k⟩ := h
  have hlen := ha.len
  show r_law_leads Z (ends Q) [some (.ref l), none, none, none] H
  unfold r_law_leads ends
  walk_at "rd"
  refine forL (xs := xs) (fun i σ H' => ∃ c d, σ = [some (.ref l), some (.int (prodTo i (ldF S))), c, d] ∧ Same H H') ⟨_, _, rfl, .refl _⟩ (fun i σ H' _ ⟨_, _, _, s⟩ => SqL.of (s _ _ hl)) ?_ ?_
  · rintro i x σ H' hi ⟨c, d, rfl, s⟩
    have hi2 := (List.getElem?_eq_some_iff.mp hi).1
    obtain ⟨q1, h1, h2⟩ := mat_at ha (i := i) (by omega)
    rw [h1] at hi
    cases hi
    have h3 := s _ _ h2
    have wl := hW.get (i := i) (by omega)
    obtain ⟨z, hz⟩ := hlead i (by omega)
    have eL : ldF S i = at0 (S.getD i []) z := by
      unfold ldF ent
      rw [leadPl_eq hz]
    have hc' := hc i (by omega)
    have eP : prodTo (i + 1) (ldF S) = prodTo i (ldF S) * ldF S i := rfl
    rw [eL] at hc' eP
    generalize S.getD i [] = r at h3 wl hz hc' eP
    walk_at "rd"
    refine lcLF (β := Int) (xs := r.map V.int) (fun R h => by walk_at "rd"; exact h) (dom H') (fun j => decide (at0 r j ≠ 0)) (fun j => at0 r j) (SqL.of h3) (by rw [lenV]; omega) (fun _ h => h) (fun _ => rfl) (fun j x H2 hj s2 R k2 => ?_) (fun j x H2 M1 hj hf s2 _ _ R k2 => ?_) ?_
    · obtain ⟨y, hy, rfl⟩ := row_at hj
      obtain rfl := at0_some hy
      show tTest _ [some (.ref l), some (.int (prodTo i (ldF S))), some (.ref q1), some (.int (at0 r j))] H2 R
      walk_at "rd"
      exact k2 _ (.refl _)
    · obtain ⟨y, hy, rfl⟩ := row_at hj
      obtain rfl := at0_some hy
      show tVar 3 [some (.ref l), some (.int (prodTo i (ldF S))), some (.ref q1), some (.int (at0 r j))] H2 R
      walk_at "rd"
      exact k2 _ _ (.refl _) rfl
    · intro D ys H2 s2 n2 e2 a2
      rw [lenV] at a2
      have ea := all2_ints.mp (show All2 _ ys (((List.range r.length).filter fun j => decide (at0 r j ≠ 0)).map fun j => at0 r j) from a2)
      have eh := filter_head (n := r.length) (q := z) (f := fun j => decide (at0 r j ≠ 0)) hz.1 (decide_eq_true hz.2.1) (fun j hj => decide_eq_false (fun n => n (hz.2.2 j hj)))
      walk_at "rd"
      refine w_ixAt 0 0 rfl e2 (show ys[0]? = some (.int (at0 r z)) by rw [ea, List.getElem?_map, List.getElem?_map, eh]; rfl) ?_
      refine w_I hc' ?_
      rw [← eP]
      exact ⟨_, _, rfl, s.trans s2⟩
  · rintro σ H' ⟨c, d, rfl, s⟩
    walk_at "rd"
    rw [hlen]
    exact k _ s
theorem com_succ {u : Row} {A : Mat} {i : Nat} (h : i < A.length) : comN u (A.take (i + 1)) = Nat.gcd (comN u (A.take i)) (dot u (A.getD i [])).natAbs := by
  unfold comN
  have e : A.take (i + 1) = A.take i ++ [A.getD i []] := by
    rw [List.take_succ, List.getElem?_eq_getElem h, List.getD_eq_getElem?_getD, List.getElem?_eq_getElem h]
    rfl
  rw [e, List.foldl_append]
  rfl
def spCom (vs : V → V → List V) : Sp := fun us H Q _ => ∃ v u, ∃ A : Mat, ∃ c : Row, us = vs v u ∧ rep H v A ∧ rep H u c ∧ Wid c.length A ∧ c.length ≤ 1000 ∧ (∀ i j, CMulG (at0 c j) (ent A i j)) ∧ ∀ H', Same H H' → Q (.int ((comN c A : Nat) : Int)) H'
def sp_law_common (Z : Ctx) : Sp := fun us H Q _ => ∃ v u, ∃ A : Mat, ∃ c : Row, us = [v, u] ∧ rep H v A ∧ rep H u c ∧ Wid c.length A ∧ c.length ≤ 1000 ∧ (∀ i j, CMulG (at0 c j) (ent A i j)) ∧ ∀ H', Same H H' → Q (.int ((comN c A : Nat) : Int)) H'
abbrev r_law_common (Z : Ctx) : TS := (tSeq (tAsg (tC (.int 0)) (gName 2)) (tSeq (tFor (iList Z.K (tVar 0)) (gName 3) (tAsg (tCall (sp_law_gcd Z) [] E0 (tCons (tVar 2) (tCons (tCall (sp_law_dot Z) [] E0 (tCons (tVar 1) (tCons (tVar 3) tNil))) tNil))) (gName 2))) (tRet (tVar 2))))
theorem ln_law_common : sp_law_common Z vs H Q E → vs.length = 2 := by rintro ⟨_, _, _, _, rfl, _⟩; rfl
abbrev nm_law_common : List Str := ["rows", "weights", "found", "row"]
theorem rd_law_common (h : sp_law_common Z vs H Q E) : r_law_common Z (ends Q) (L2.start nm_law_common vs) H := by
  obtain ⟨v, u, A, c, rfl, ⟨l, xs, rfl, hl, ha⟩, hu, hW, hc1, hc, k⟩ := h
  have hlen := ha.len
  show r_law_common Z (ends Q) [some (.ref l), some u, none, none] H
  unfold r_law_common ends
  walk_at "rd"
  refine forL (xs := xs) (fun i σ H' => ∃ d, σ = [some (.ref l), some u, some (.int ((comN c (A.take i) : Nat) : Int)), d] ∧ Same H H') ⟨_, rfl, .refl _⟩ (fun i σ H' _ ⟨_, _, s⟩ => SqL.of (s _ _ hl)) ?_ ?_
  · rintro i x σ H' hi ⟨d, rfl, s⟩
    have hi2 := (List.getElem?_eq_some_iff.mp hi).1
    obtain ⟨q1, h1, h2⟩ := mat_at ha (i := i) (by omega)
    rw [h1] at hi
    cases hi
    have h3 := s _ _ h2
    have wl := hW.get (i := i) (by omega)
    walk_at "rd"
    refine ⟨u, .ref q1, c, A.getD i [], rfl, Rep.mono s hu, rep_row_of h3, by omega, by omega, fun j => hc i j, fun H2 s2 => ?_⟩
    walk_at "rd"
    refine ⟨_, _, rfl, ?_⟩
    rw [com_succ (by omega)]
    exact ⟨_, by rw [Int.natAbs_natCast]; rfl, s.trans s2⟩
  · rintro σ H' ⟨d, rfl, s⟩
    walk_at "rd"
    rw [hlen, List.take_length]
    exact k _ s
end
end G
end
section
set_option Elab.async false
set_option linter.all false
set_option maxRecDepth 100000
namespace G
open PySem L2 PyProof.Rows
local macro_rules | `(tactic| walk_at "rd") => `(tactic| repeat (first
  | (with_reducible refine v_seq ?_)
  | (with_reducible refine v_asg ?_)
  | (with_reducible refine w_cons ?_)
  | (with_reducible refine w_nil ?_)
  | (with_reducible refine w_op ?_)
  | (with_reducible refine w_c ?_)
  | (with_reducible refine w_I0 ?_)
  | (with_reducible refine w_cb ?_)
  | (with_reducible refine w_call ?_)
  | (with_reducible refine v_ret ?_)
  | (with_reducible refine v_next ?_)
  | (with_reducible refine w_ixR (by assumption) (by assumption) ?_)
  | (with_reducible refine w_ix (by assumption) (by assumption) ?_)
  | (with_reducible refine w_test ?_)
  | (with_reducible refine w_tB ?_)
  | (with_reducible refine w_and ?_)
  | (with_reducible refine w_or ?_)
  | (with_reducible refine w_not ?_)
  | (with_reducible refine w_ifE ?_)
  | (with_reducible refine v_ifS ?_)
  | (with_reducible refine w_tt ?_)
  | (with_reducible refine w_ff ?_)
  | (with_reducible refine w_eqI ?_)
  | (with_reducible refine w_neI ?_)
  | (with_reducible refine w_U ?_)
  | (with_reducible refine w_un ?_)
  | (with_reducible refine w_len (by assumption) ?_)
  | (with_reducible refine w_abs ?_)
  | (with_reducible refine w_int ?_)
  | (with_reducible refine w_isN0 ?_)
  | (with_reducible refine w_isN1 (by assumption) ?_)
  | (with_reducible refine w_isN1 ne_in ?_)
  | (with_reducible refine w_isN1 ne_rn ?_)
  | (with_reducible refine w_notN0 ?_)
  | (with_reducible refine w_notN1 ne_in ?_)
  | (with_reducible refine w_notN1 ne_rn ?_)
  | (with_reducible refine v_lst ?_)
  | (with_reducible refine v_tup ?_)
  | (with_reducible refine w_notN1 (by assumption) ?_)
  | (with_reducible refine v_drop ?_)
  | (with_reducible refine w_bm ?_)
  | (with_reducible refine v_for ?_)
  | (with_reducible refine v_rng1 ?_)
  | (with_reducible refine v_rng2 ?_)
  | (with_reducible refine v_list ?_)
  | (with_reducible refine w_sub ?_)
  | (with_reducible refine v_ip ?_)
  | (with_reducible refine v_augS ?_)
  | (with_reducible refine v_retN ?_)
  | (with_reducible refine w_yes ?_)
  | (with_reducible refine tv_0 ?_)
  | (with_reducible refine nv_0 ?_)
  | (with_reducible refine av_0 ?_)
  | (with_reducible refine tv_1 ?_)
  | (with_reducible refine nv_1 ?_)
  | (with_reducible refine av_1 ?_)
  | (with_reducible refine tv_2 ?_)
  | (with_reducible refine nv_2 ?_)
  | (with_reducible refine av_2 ?_)
  | (with_reducible refine tv_3 ?_)
  | (with_reducible refine nv_3 ?_)
  | (with_reducible refine av_3 ?_)
  | (with_reducible refine tv_4 ?_)
  | (with_reducible refine nv_4 ?_)
  | (with_reducible refine av_4 ?_)
  | (with_reducible refine tv_5 ?_)
  | (with_reducible refine nv_5 ?_)
  | (with_reducible refine av_5 ?_)
  | (with_reducible refine tv_6 ?_)
  | (with_reducible refine nv_6 ?_)
  | (with_reducible refine av_6 ?_)
  | (with_reducible refine tv_7 ?_)
  | (with_reducible refine nv_7 ?_)
  | (with_reducible refine av_7 ?_)
  | (with_reducible refine tv_8 ?_)
  | (with_reducible refine nv_8 ?_)
  | (with_reducible refine av_8 ?_)
  | (with_reducible refine tv_9 ?_)
  | (with_reducible refine nv_9 ?_)
  | (with_reducible refine av_9 ?_)
  | (with_reducible refine tv_10 ?_)
  | (with_reducible refine nv_10 ?_)
  | (with_reducible refine av_10 ?_)
  | (with_reducible refine tv_11 ?_)
  | (with_reducible refine nv_11 ?_)
  | (with_reducible refine av_11 ?_)
  | (with_reducible refine tv_12 ?_)
  | (with_reducible refine nv_12 ?_)
  | (with_reducible refine av_12 ?_)
  | (with_reducible refine tv_13 ?_)
  | (with_reducible refine nv_13 ?_)
  | (with_reducible refine av_13 ?_)
  | (with_reducible refine tv_14 ?_)
  | (with_reducible refine nv_14 ?_)
  | (with_reducible refine av_14 ?_)
  | (with_reducible refine tv_15 ?_)
  | (with_reducible refine nv_15 ?_)
  | (with_reducible refine av_15 ?_)
  | (with_reducible refine ⟨_, rfl, ⟨_, SqL.of (by assumption)⟩, ?_⟩)
  | (with_reducible refine ⟨_, rfl, (by omega), (by omega), ?_⟩)
  | (with_reducible refine ⟨w_tyL (by assumption), ?_⟩)
  | (with_reducible refine w_isiII ?_)
  | (with_reducible refine w_isiIB ?_)
  | (with_reducible refine w_isiBB ?_)
  | (with_reducible refine w_isiBI ?_)
  | (with_reducible refine w_isiNL ?_)
  | (with_reducible refine w_isiLL (by assumption) ?_)
  | (with_reducible refine v_sl ?_)
  | (with_reducible refine w_nff ?_)
  | (with_reducible refine w_ntt ?_)
  | (with_reducible refine v_chain ?_)
  | (with_reducible refine v_andV ?_)
  | (with_reducible refine v_orV ?_)
  | (with_reducible refine v_notV ?_)
  | (with_reducible refine v_noP ?_)
  | (with_reducible refine v_part ?_)
  | (with_reducible refine v_fld ?_)
  | (with_reducible refine v_sfld ?_)
  | (with_reducible refine ⟨_, (rfl : V.bl _ = V.bl _), ?_⟩)
  | (with_reducible refine ⟨_, (rfl : V.ref _ = V.ref _), ?_⟩)
  | (with_reducible refine ⟨_, (rfl : [V.int _] = [V.int _]), ?_⟩)
  | (with_reducible refine ⟨_, (rfl : V.int _ = V.int _), ?_⟩)
  | (with_reducible refine ⟨⟨_, SqL.of (by assumption)⟩, ?_⟩)
  | (with_reducible refine ⟨(by (first | omega | (rw [lenV]; omega)) : -(2 ^ 62) ≤ _), (by first | omega | (rw [lenV]; omega)), ?_⟩)
  | (with_reducible refine v_meth ?_)
  | (with_reducible refine v_make ?_)
  | (with_reducible refine w_neBB ?_)
  | (with_reducible refine w_eqBB ?_)
  | (with_reducible refine w_isiRI (by assumption) ?_)
  ))
section
variable {Z : Ctx} {vs : List V} {H : Hp} {Q : VK} {E : XK}
theorem lk_no {g : Str} {w : Nat} {vg vs vk : V} (h1 : ¬ g = "row_width") (h2 : ¬ g = "given_rows") (h3 : ¬ g = "normal_rows") (h4 : ¬ g = "kept_list") : (lf w vg vs vk).lookup g = none := by
  unfold lf
  rw [lk_ne h1, lk_ne h2, lk_ne h3, lk_ne h4]
  rfl
theorem lat_meth {v : V} {w : Nat} {g S : Mat} {m : Str} {R : Prop} (L : Lat Z H v w g S) (hm : ∀ vg vS vk, (lf w vg vS vk).lookup m = none) (q : R) : ∃ a dx fs, v = .ref a ∧ H a = some (.ins (Z.cls "Lattice") dx fs) ∧ fs.lookup m = none ∧ R := by
  obtain ⟨a, dx, vg, vS, vk, rfl, hb, _⟩ := L
  exact ⟨a, dx, _, rfl, hb, hm _ _ _, q⟩
theorem make_lat {x dx : Addr} {v : V} {w : Nat} {z : Int} {m : Mat} {Q' : VK} (n1 : H x = none) (n2 : H dx = none) (nd : dx ≠ x) (hz : z = (w : Int)) (hv : rep H v m) (wid : Wid w m) (h9 : w ≤ 9) (hl : m.length ≤ 40) (hb : ∀ r ∈ m, ∀ y ∈ r, -1000000 ≤ y ∧ y ≤ 1000000)
    (k : ∀ H', Same H H' → (∀ N : Addr → Prop, (∀ a, N a → dom H a) → Lat Z (off H' N) (.ref x) w m (stairs m w)) → Q' .non H') : sp_Lattice___init__ Z [.ref x, .int z, v] (upd (upd H dx (.own x)) x (.ins (Z.cls "Lattice") dx [])) Q' E := by
  have nx : (upd H dx (.own x)) x = none := by rw [upd_ne (fun e => nd e.symm)]; exact n1
  have s0 : Same H (upd (upd H dx (.own x)) x (.ins (Z.cls "Lattice") dx [])) := (same_new n2).trans (same_new nx)
  subst hz
  refine ⟨x, dx, v, w, m, rfl, upd_same, Rep.mono s0 hv, wid, h9, hl, hb, fun H' vg vS c e1 r1 r2 => k H' (fun a o e => c a o (fun q => by rw [q, n1] at e; cases e) (s0 a o e)) fun N hN => ?_⟩
  exact ⟨x, dx, vg, vS, .non, rfl, off_in (fun q => hN x q n1) e1, Rep.mono (off_less fun a q => dom_same s0 (hN a q)) r1, Rep.mono (off_less fun a q => dom_same s0 (hN a q)) r2⟩
theorem pl_w {w w' : Nat} {vg vS vk : V} : putF "row_width" (.int (w' : Int)) (lf w vg vS vk) = lf w' vg vS vk := by
  show (if ("row_width" : Str) = "row_width" then _ else _) = _
  rw [if_pos rfl]
  rfl
theorem pl_g {w : Nat} {v vg vS vk : V} : putF "given_rows" v (lf w vg vS vk) = lf w v vS vk := by
  show (if ("row_width" : Str) = "given_rows" then _ else (("row_width" : Str), _) :: (if ("given_rows" : Str) = "given_rows" then _ else _)) = _
  rw [if_neg s_wg, if_pos rfl]
  rfl
theorem pl_s {w : Nat} {v vg vS vk : V} : putF "normal_rows" v (lf w vg vS vk) = lf w vg v vk := by
  show (if ("row_width" : Str) = "normal_rows" then _ else (("row_width" : Str), _) :: (if ("given_rows" : Str) = "normal_rows" then _ else (("given_rows" : Str), _) :: (if ("normal_rows" : Str) = "normal_rows" then _ else _))) = _
  rw [if_neg s_ws, if_neg s_gs, if_pos rfl]
  rfl
/-- a lattice made of rows as they are -/
def sp_lattice_of (Z : Ctx) : Sp := fun vs H Q _ => ∃ v, ∃ z : Int, ∃ w b : Nat, ∃ A : Mat, vs = [.int z, v] ∧ z = (w : Int) ∧ rep H v A ∧ StPre w w b A ∧
  ∀ x H', Same H H' → H x = none → (∀ N : Addr → Prop, (∀ a, N a → dom H a) → Lat Z (off H' N) (.ref x) w A (stairs A w)) → Q (.ref x) H'
abbrev r_lattice_of (Z : Ctx) : TS := (tSeq (tAsg (tMake (Z.cls "Lattice") (sp_Lattice___init__ Z) [] E0 (tCons (tC (.int 0)) (tCons (tLst tNil) tNil))) (gName 2)) (tSeq (sFld Z.K (tVar 2) (tVar 0) "row_width") (tSeq (sFld Z.K (tVar 2) (tLc (iList Z.K (tVar 1)) (gName 3) tYes (tCB (rLstG Z.K) (tCons (tVar 3) tNil)) [3]) "given_rows") (tSeq (sFld Z.K (tVar 2) (tCall (sp_stairs_of Z) [] E0 (tCons (tVar 1) (tCons (tVar 0) tNil))) "normal_rows") (tRet (tVar 2))))))
theorem ln_lattice_of : sp_lattice_of Z vs H Q E → vs.length = 2 := by rintro ⟨_, _, _, _, _, rfl, _⟩; rfl
abbrev nm_lattice_of : List Str := ["width", "rows", "made", "row"]
theorem rd_lattice_of (LC : LatCls Z) (h : sp_lattice_of Z vs H Q E) : r_lattice_of Z (ends Q) (L2.start nm_lattice_of vs) H := by
  obtain ⟨v, z, w, b, A, rfl, rfl, ⟨l, xs, rfl, hl, ha⟩, pre, k⟩ := h
  have hA : rep H (.ref l) A := ⟨l, xs, rfl, hl, ha⟩
  have hz := pre.2.2.2.2.1
  show r_lattice_of Z (ends Q) [some (.int (w : Int)), some (.ref l), none, none] H
  unfold r_lattice_of ends
  walk_at "rd"
  refine ⟨by decide, fun l0 n0 => ?_⟩
  have s0 := same_new (o := .lst []) n0
  have e0 : (upd H l0 (.lst [])) l0 = some (.lst []) := upd_same
  generalize upd H l0 (.lst []) = H0 at s0 e0
  walk_at "rd"
  intro x dx nx ndx nd
  refine make_lat nx ndx nd (w := 0) (m := []) rfl ⟨l0, [], rfl, e0, trivial⟩ (fun r hr => absurd hr (by simp)) (by decide) (by decide) (fun r hr => absurd hr (by simp)) fun H1 s1 L1 => ⟨rfl, ?_⟩
  obtain ⟨a, dx', vg, vS, vk, e, hx, _, _⟩ := L1 (fun _ => False) fun _ z => z.elim
  cases e
  have hx := off_same _ _ hx
  have nxH : H x = none := s0.free nx
  have s01 := s0.trans s1
  walk_at "rd"
  refine ⟨x, _, dx', _, rfl, hx, LC.cl, LC.nw, by simp [lf], ?_⟩
  rw [pl_w]
  have c2 : Chg x H (upd H1 x (.ins (Z.cls "Lattice") dx' (lf w vg vS vk))) := (Chg.of s01).trans chg_upd
  have hx2 : (upd H1 x (.ins (Z.cls "Lattice") dx' (lf w vg vS vk))) x = some (.ins (Z.cls "Lattice") dx' (lf w vg vS vk)) := upd_same
  generalize upd H1 x (.ins (Z.cls "Lattice") dx' (lf w vg vS vk)) = H2 at c2 hx2
  have up : ∀ {H'}, Chg x H H' → Same H H' := fun {H'} c a o e => c a o (fun q => by rw [q, nxH] at e; cases e) e
  have s2 := up c2
  have d2 : ∀ a, wth (dom H) x a → dom H2 a := fun a h => by
    rcases h with h | h
    · exact dom_same s2 h
    · exact h ▸ dom_of hx2
  walk_at "rd"
  refine lcCopyT (fun R h => by have hl2 := s2 _ _ hl; walk_at "rd"; exact h) (wth (dom H) x) (s2 _ _ hl) (all2_mono s2 ha) (by omega) d2 (fun _ => by rfl) (fun _ => by rfl) ?_
  intro p3 xs3 H3 s3 n3 e3 a3
  walk_at "rd"
  refine ⟨x, _, dx', _, rfl, s3 _ _ hx2, LC.cl, LC.ng, by simp [lf], ?_⟩
  rw [pl_g]
  have np3 : ¬ wth (dom H) x p3 := fun z => d2 _ z n3
  have r3 : rep (off H3 (wth (dom H) x)) (.ref p3) A := ⟨p3, xs3, rfl, off_in np3 e3, all2_mono off_sub a3⟩
  have c4 : Chg x H (upd H3 x (.ins (Z.cls "Lattice") dx' (lf w (.ref p3) vS vk))) := c2.trans ((Chg.of s3).trans chg_upd)
  have r4 : rep (off (upd H3 x (.ins (Z.cls "Lattice") dx' (lf w (.ref p3) vS vk))) (wth (dom H) x)) (.ref p3) A := by rw [off_upd wth_l]; exact r3
  have hx4 : (upd H3 x (.ins (Z.cls "Lattice") dx' (lf w (.ref p3) vS vk))) x = some (.ins (Z.cls "Lattice") dx' (lf w (.ref p3) vS vk)) := upd_same
  generalize upd H3 x (.ins (Z.cls "Lattice") dx' (lf w (.ref p3) vS vk)) = H4 at c4 r4 hx4
  have s4 := up c4
  have d4 : ∀ a, wth (dom H) x a → dom H4 a := fun a h => by
    rcases h with h | h
    · exact dom_same s4 h
    · exact h ▸ dom_of hx4
  walk_at "rd"
  refine ⟨.ref l, w, w, b, A, rfl, Rep.mono s4 hA, pre, fun p5 xs5 H5 s5 n5 e5 a5 => ?_⟩
  walk_at "rd"
  refine ⟨x, _, dx', _, rfl, s5 _ _ hx4, LC.cl, LC.ns, by simp [lf], ?_⟩
  rw [pl_s]
  have np5 : ¬ wth (dom H) x p5 := fun z => d4 _ z n5
  have c6 : Chg x H (upd H5 x (.ins (Z.cls "Lattice") dx' (lf w (.ref p3) (.ref p5) vk))) := c4.trans ((Chg.of s5).trans chg_upd)
  walk_at "rd"
  refine k x _ (up c6) nxH fun N hN => ⟨x, dx', .ref p3, .ref p5, vk, rfl, off_in (fun z => hN x z nxH) upd_same, ?_, ?_⟩
  · have r6 : rep (off (upd H5 x (.ins (Z.cls "Lattice") dx' (lf w (.ref p3) (.ref p5) vk))) (wth (dom H) x)) (.ref p3) A := by rw [off_upd wth_l]; exact Rep.mono (off_mono s5) r4
    exact Rep.mono (off_less fun a z => .inl (hN a z)) r6
  · have r6 : rep (off (upd H5 x (.ins (Z.cls "Lattice") dx' (lf w (.ref p3) (.ref p5) vk))) (wth (dom H) x)) (.ref p5) (stairs A w) := by
      rw [off_upd wth_l]
      exact ⟨p5, xs5, rfl, off_in np5 e5, all2_mono (off_less fun a h => .inl (d4 a h)) a5⟩
    exact Rep.mono (off_less fun a z => .inl (hN a z)) r6
/-- the rows at which the weights show 0 -/
def sp_cut_lattice (Z : Ctx) : Sp := fun vs H Q _ => ∃ v u, ∃ w : Nat, ∃ g S W : Mat, vs = [v, u] ∧ Lat Z H v w g S ∧ rep H u W ∧ CutPre w S W ∧
  ∀ x H', Same H H' → H x = none → (∀ N : Addr → Prop, (∀ a, N a → dom H a) → Lat Z (off H' N) (.ref x) w (cutM S W w) (cutM S W w)) → Q (.ref x) H'
abbrev r_cut_lattice (Z : Ctx) : TS := (tRet (tCall (sp_lattice_of Z) [] E0 (tCons (tFld Z.K (tVar 0) "row_width") (tCons (tCall (sp_cut_by Z) [] E0 (tCons (tFld Z.K (tVar 0) "row_width") (tCons (tFld Z.K (tVar 0) "normal_rows") (tCons (tVar 1) tNil)))) tNil))))
theorem ln_cut_lattice : sp_cut_lattice Z vs H Q E → vs.length = 2 := by rintro ⟨_, _, _, _, _, _, rfl, _⟩; rfl
abbrev nm_cut_lattice : List Str := ["lattice", "weights_list"]
theorem cut_st {w : Nat} {A W : Mat} (h : CutPre w A W) : StPre w w 0 (cutM A W w) := by
  have := h.w4
  obtain ⟨L, q⟩ := stairs_hs (cutR_wid (W := W) h.wa)
  obtain ⟨_, _, _, _, _, h6, _⟩ := stF_inv (cutR_wid (W := W) h.wa) (cutR_size h.wa h.w4 h.ws h.n3 h.sz) w
  have h6 : (cutM A W w).length ≤ w := h6
  exact ⟨q.wid, Nat.le_refl _, by omega, by omega, by omega, .inr ⟨L, q⟩⟩
theorem cut_id {w : Nat} {A W : Mat} (h : Wid w A) : stairs (cutM A W w) w = cutM A W w := by
  obtain ⟨L, q⟩ := stairs_hs (cutR_wid (W := W) h)
  exact stairs_hs_id q
theorem rd_cut_lattice (LC : LatCls Z) (h : sp_cut_lattice Z vs H Q E) : r_cut_lattice Z (ends Q) (L2.start nm_cut_lattice vs) H := by
  obtain ⟨v, u, w, g, S, W, rfl, ⟨a, dx, vg, vS, vk, rfl, h1, h2, h3⟩, hu, pre, k⟩ := h
  show r_cut_lattice Z (ends Q) [some (.ref a), some u] H
  unfold r_cut_lattice ends
  walk_at "rd"
  refine ⟨a, _, dx, _, _, rfl, h1, LC.cl, LC.nw, lk_w, ?_⟩
  walk_at "rd"
  refine ⟨a, _, dx, _, _, rfl, h1, LC.cl, LC.nw, lk_w, ?_⟩
  walk_at "rd"
  refine ⟨a, _, dx, _, _, rfl, h1, LC.cl, LC.ns, lk_s, ?_⟩
  walk_at "rd"
  refine ⟨vS, u, w, S, W, rfl, h3, hu, pre, fun p H1x H2 s2 n2 e2 a2 => ?_⟩
  walk_at "rd"
  refine ⟨.ref p, w, w, 0, cutM S W w, rfl, rfl, ⟨p, H1x, rfl, e2, all2_mono off_same a2⟩, cut_st pre, fun x H3 s3 n3 L3 => ?_⟩
  rw [cut_id pre.wa] at L3
  exact k x H3 (s2.trans s3) (s2.free n3) fun N hN => L3 N fun b z => dom_same s2 (hN b z)
def sp_common_of (Z : Ctx) : Sp := fun us H Q _ => ∃ v u, ∃ w : Nat, ∃ g S : Mat, ∃ c : Row, us = [v, u] ∧ Lat Z H v w g S ∧ rep H u c ∧ Wid c.length S ∧ c.length ≤ 1000 ∧ (∀ i j, CMulG (at0 c j) (ent S i j)) ∧ ∀ H', Same H H' → Q (.int ((comN c S : Nat) : Int)) H'
abbrev r_common_of (Z : Ctx) : TS := (tSeq (tAsg (tC (.int 0)) (gName 2)) (tSeq (tFor (iList Z.K (tFld Z.K (tVar 0) "normal_rows")) (gName 3) (tAsg (tCall (sp_greatest_common Z) [] E0 (tCons (tVar 2) (tCons (tCall (sp_dot_product Z) [] E0 (tCons (tVar 1) (tCons (tVar 3) tNil))) tNil))) (gName 2))) (tRet (tVar 2))))
theorem ln_common_of : sp_common_of Z vs H Q E → vs.length = 2 := by rintro ⟨_, _, _, _, _, _, rfl, _⟩; rfl
abbrev nm_common_of : List Str := ["lattice", "weights", "found", "row"]
theorem rd_common_of (LC : LatCls Z) (h : sp_common_of Z vs H Q E) : r_common_of Z (ends Q) (L2.start nm_common_of vs) H := by
  obtain ⟨v, u, w, g, A, c, rfl, ⟨a, dx, vg, vS, vk, rfl, h1, h2, ⟨l, xs, rfl, hl, ha⟩⟩, hu, hW, hc1, hc, k⟩ := h
  have hlen := ha.len
  show r_common_of Z (ends Q) [some (.ref a), some u, none, none] H
  unfold r_common_of ends
  walk_at "rd"
  refine ⟨a, _, dx, _, _, rfl, h1, LC.cl, LC.ns, lk_s, ?_⟩
  refine ⟨l, rfl, ⟨_, SqL.of hl⟩, ?_⟩
  refine forL (xs := xs) (fun i σ H' => ∃ d, σ = [some (.ref a), some u, some (.int ((comN c (A.take i) : Nat) : Int)), d] ∧ Same H H') ⟨_, rfl, .refl _⟩ (fun i σ H' _ ⟨_, _, s⟩ => SqL.of (s _ _ hl)) ?_ ?_
  · rintro i x σ H' hi ⟨d, rfl, s⟩
    have hi2 := (List.getElem?_eq_some_iff.mp hi).1
    obtain ⟨q1, g1, g2⟩ := mat_at ha (i := i) (by omega)
    rw [g1] at hi
    cases hi
    have g3 := s _ _ g2
    have wl := hW.get (i := i) (by omega)
    walk_at "rd"
    refine ⟨u, .ref q1, c, A.getD i [], rfl, Rep.mono s hu, rep_row_of g3, by omega, by omega, fun j => hc i j, ?_⟩
    walk_at "rd"
    refine ⟨_, _, rfl, fun H2 s2 => ?_⟩
    rw [com_succ (by omega)]
    exact ⟨_, by rw [Int.natAbs_natCast]; rfl, s.trans s2⟩
  · rintro σ H' ⟨d, rfl, s⟩
    walk_at "rd"
    rw [hlen, List.take_length]
    exact k _ s
end
end G
end
section
set_option Elab.async false
set_option linter.all false
set_option maxRecDepth 100000
namespace G
open PySem L2 PyProof.Rows
local macro_rules | `(tactic| walk_at "rd") => `(tactic| repeat (first
  | (with_reducible refine v_seq ?_)
  | (with_reducible refine v_asg ?_)
  | (with_reducible refine w_cons ?_)
  | (with_reducible refine w_nil ?_)
  | (with_reducible refine w_op ?_)
  | (with_reducible refine w_c ?_)
  | (with_reducible refine w_I0 ?_)
  | (with_reducible refine w_cb ?_)
  | (with_reducible refine w_call ?_)
  | (with_reducible refine v_ret ?_)
  | (with_reducible refine v_next ?_)
  | (with_reducible refine w_ixR (by assumption) (by assumption) ?_)
  | (with_reducible refine w_ix (by assumption) (by assumption) ?_)
  | (with_reducible refine w_test ?_)
  | (with_reducible refine w_tB ?_)
  | (with_reducible refine w_and ?_)
  | (with_reducible refine w_or ?_)
  | (with_reducible refine w_not ?_)
  | (with_reducible refine w_ifE ?_)
  | (with_reducible refine v_ifS ?_)
  | (with_reducible refine w_tt ?_)
  | (with_reducible refine w_ff ?_)
  | (with_reducible refine w_eqI ?_)
  | (with_reducible refine w_neI ?_)
  | (with_reducible refine w_U ?_)
  | (with_reducible refine w_un ?_)
  | (with_reducible refine w_len (by assumption) ?_)
  | (with_reducible refine w_abs ?_)
  | (with_reducible refine w_int ?_)
  | (with_reducible refine w_isN0 ?_)
  | (with_reducible refine w_isN1 (by assumption) ?_)
  | (with_reducible refine w_isN1 ne_in ?_)
  | (with_reducible refine w_isN1 ne_rn ?_)
  | (with_reducible refine w_notN0 ?_)
  | (with_reducible refine w_notN1 ne_in ?_)
  | (with_reducible refine w_notN1 ne_rn ?_)
  | (with_reducible refine v_lst ?_)
  | (with_reducible refine v_tup ?_)
  | (with_reducible refine w_notN1 (by assumption) ?_)
  | (with_reducible refine v_drop ?_)
  | (with_reducible refine w_bm ?_)
  | (with_reducible refine v_for ?_)
  | (with_reducible refine v_rng1 ?_)
  | (with_reducible refine v_rng2 ?_)
  | (with_reducible refine v_list ?_)
  | (with_reducible refine w_sub ?_)
  | (with_reducible refine v_ip ?_)
  | (with_reducible refine v_augS ?_)
  | (with_reducible refine v_retN ?_)
  | (with_reducible refine w_yes ?_)
  | (with_reducible refine tv_0 ?_)
  | (with_reducible refine nv_0 ?_)
  | (with_reducible refine av_0 ?_)
  | (with_reducible refine tv_1 ?_)
  | (with_reducible refine nv_1 ?_)
  | (with_reducible refine av_1 ?_)
  | (with_reducible refine tv_2 ?_)
  | (with_reducible refine nv_2 ?_)
  | (with_reducible refine av_2 ?_)
  | (with_reducible refine tv_3 ?_)
  | (with_reducible refine nv_3 ?_)
  | (with_reducible refine av_3 ?_)
  | (with_reducible refine tv_4 ?_)
  | (with_reducible refine nv_4 ?_)
  | (with_reducible refine av_4 ?_)
  | (with_reducible refine tv_5 ?_)
  | (with_reducible refine nv_5 ?_)
  | (with_reducible refine av_5 ?_)
  | (with_reducible refine tv_6 ?_)
  | (with_reducible refine nv_6 ?_)
  | (with_reducible refine av_6 ?_)
  | (with_reducible refine tv_7 ?_)
  | (with_reducible refine nv_7 ?_)
  | (with_reducible refine av_7 ?_)
  | (with_reducible refine tv_8 ?_)
  | (with_reducible refine nv_8 ?_)
  | (with_reducible refine av_8 ?_)
  | (with_reducible refine tv_9 ?_)
  | (with_reducible refine nv_9 ?_)
  | (with_reducible refine av_9 ?_)
  | (with_reducible refine tv_10 ?_)
  | (with_reducible refine nv_10 ?_)
  | (with_reducible refine av_10 ?_)
  | (with_reducible refine tv_11 ?_)
  | (with_reducible refine nv_11 ?_)
  | (with_reducible refine av_11 ?_)
  | (with_reducible refine tv_12 ?_)
  | (with_reducible refine nv_12 ?_)
  | (with_reducible refine av_12 ?_)
  | (with_reducible refine tv_13 ?_)
  | (with_reducible refine nv_13 ?_)
  | (with_reducible refine av_13 ?_)
  | (with_reducible refine tv_14 ?_)
  | (with_reducible refine nv_14 ?_)
  | (with_reducible refine av_14 ?_)
  | (with_reducible refine tv_15 ?_)
  | (with_reducible refine nv_15 ?_)
  | (with_reducible refine av_15 ?_)
  | (with_reducible refine ⟨_, rfl, ⟨_, SqL.of (by assumption)⟩, ?_⟩)
  | (with_reducible refine ⟨_, rfl, (by omega), (by omega), ?_⟩)
  | (with_reducible refine ⟨w_tyL (by assumption), ?_⟩)
  | (with_reducible refine w_isiII ?_)
  | (with_reducible refine w_isiIB ?_)
  | (with_reducible refine w_isiBB ?_)
  | (with_reducible refine w_isiBI ?_)
  | (with_reducible refine w_isiNL ?_)
  | (with_reducible refine w_isiLL (by assumption) ?_)
  | (with_reducible refine v_sl ?_)
  | (with_reducible refine w_nff ?_)
  | (with_reducible refine w_ntt ?_)
  | (with_reducible refine v_chain ?_)
  | (with_reducible refine v_andV ?_)
  | (with_reducible refine v_orV ?_)
  | (with_reducible refine v_notV ?_)
  | (with_reducible refine v_noP ?_)
  | (with_reducible refine v_part ?_)
  | (with_reducible refine v_fld ?_)
  | (with_reducible refine v_sfld ?_)
  | (with_reducible refine ⟨_, (rfl : V.bl _ = V.bl _), ?_⟩)
  | (with_reducible refine ⟨_, (rfl : V.ref _ = V.ref _), ?_⟩)
  | (with_reducible refine ⟨_, (rfl : [V.int _] = [V.int _]), ?_⟩)
  | (with_reducible refine ⟨_, (rfl : V.int _ = V.int _), ?_⟩)
  | (with_reducible refine ⟨⟨_, SqL.of (by assumption)⟩, ?_⟩)
  | (with_reducible refine ⟨(by (first | omega | (rw [lenV]; omega)) : -(2 ^ 62) ≤ _), (by first | omega | (rw [lenV]; omega)), ?_⟩)
  | (with_reducible refine v_meth ?_)
  | (with_reducible refine v_make ?_)
  | (with_reducible refine w_neBB ?_)
  | (with_reducible refine w_eqBB ?_)
  | (with_reducible refine w_isiRI (by assumption) ?_)
  ))
section
variable {Z : Ctx} {vs : List V} {H : Hp} {Q : VK} {E : XK}
def sp_Lattice_joined (Z : Ctx) : Sp := fun vs H Q _ => ∃ v u, ∃ w b : Nat, ∃ g S g' S' : Mat, vs = [v, u] ∧ Lat Z H v w g S ∧ Lat Z H u w g' S' ∧ StPre w w b (g ++ g') ∧
  ∀ x H', Same H H' → H x = none → (∀ N : Addr → Prop, (∀ a, N a → dom H a) → Lat Z (off H' N) (.ref x) w (g ++ g') (stairs (g ++ g') w)) → Q (.ref x) H'
abbrev r_Lattice_joined (Z : Ctx) : TS := (tSeq (tDrop (tCall (sp_check_width Z) [] E0 (tCons (tVar 0) (tCons (tVar 1) tNil)))) (tRet (tCall (sp_lattice_of Z) [] E0 (tCons (tFld Z.K (tVar 0) "row_width") (tCons (tOp rCat (tFld Z.K (tVar 0) "given_rows") (tFld Z.K (tVar 1) "given_rows")) tNil)))))
theorem ln_Lattice_joined : sp_Lattice_joined Z vs H Q E → vs.length = 2 := by rintro ⟨_, _, _, _, _, _, _, _, rfl, _⟩; rfl
abbrev nm_Lattice_joined : List Str := ["self", "other"]
theorem rd_Lattice_joined (LC : LatCls Z) (h : sp_Lattice_joined Z vs H Q E) : r_Lattice_joined Z (ends Q) (L2.start nm_Lattice_joined vs) H := by
  obtain ⟨v, u, w, b, g, S, g', S', rfl, L, L', pre, k⟩ := h
  have q1 := L
  have q2 := L'
  obtain ⟨a, dx, vg, vS, vk, rfl, h1, ⟨l, xs, rfl, hl, ha⟩, _⟩ := L
  obtain ⟨a', dx', vg', vS', vk', rfl, h1', ⟨l', xs', rfl, hl', ha'⟩, _⟩ := L'
  have e1 := ha.len
  have e2 := ha'.len
  have hz := pre.2.2.2.2.1
  rw [List.length_append] at hz
  show r_Lattice_joined Z (ends Q) [some (.ref a), some (.ref a')] H
  unfold r_Lattice_joined ends
  walk_at "rd"
  refine ⟨.ref a, .ref a', w, g, S, g', S', rfl, q1, q2, ?_⟩
  walk_at "rd"
  refine ⟨a, _, dx, _, _, rfl, h1, LC.cl, LC.nw, lk_w, ?_⟩
  walk_at "rd"
  refine ⟨a, _, dx, _, _, rfl, h1, LC.cl, LC.ng, lk_g, ?_⟩
  walk_at "rd"
  refine ⟨a', _, dx', _, _, rfl, h1', LC.cl, LC.ng, lk_g, ?_⟩
  refine w_cat hl hl' (by omega) fun p n => ?_
  have s := same_new (o := .lst (xs ++ xs')) n
  walk_at "rd"
  exact ⟨.ref p, w, w, b, g ++ g', rfl, rfl, ⟨p, _, rfl, upd_same, (all2_mono s ha).app (all2_mono s ha')⟩, pre, fun x H3 s3 n3 L3 => k x H3 (s.trans s3) (s.free n3) fun N hN => L3 N fun b z => dom_same s (hN b z)⟩
def sp_Lattice_cut (Z : Ctx) : Sp := fun vs H Q _ => ∃ v u, ∃ w : Nat, ∃ g S W : Mat, vs = [v, u] ∧ Lat Z H v w g S ∧ rep H u W ∧ CutPre w S W ∧
  (∀ r ∈ W, ∀ x ∈ r, -1000000000000000000000000000000 ≤ x ∧ x ≤ 1000000000000000000000000000000) ∧
  ∀ x H', Same H H' → H x = none → (∀ N : Addr → Prop, (∀ a, N a → dom H a) → Lat Z (off H' N) (.ref x) w (cutM S W w) (cutM S W w)) → Q (.ref x) H'
abbrev r_Lattice_cut (Z : Ctx) : TS := (tSeq (tDrop (tCall (sp_check_asked Z) [] E0 (tCons (tVar 1) (tCons (tFld Z.K (tVar 0) "row_width") tNil)))) (tRet (tCall (sp_cut_lattice Z) [] E0 (tCons (tVar 0) (tCons (tVar 1) tNil)))))
theorem ln_Lattice_cut : sp_Lattice_cut Z vs H Q E → vs.length = 2 := by rintro ⟨_, _, _, _, _, _, rfl, _⟩; rfl
abbrev nm_Lattice_cut : List Str := ["self", "weights_list"]
theorem rd_Lattice_cut (LC : LatCls Z) (h : sp_Lattice_cut Z vs H Q E) : r_Lattice_cut Z (ends Q) (L2.start nm_Lattice_cut vs) H := by
  obtain ⟨v, u, w, g, S, W, rfl, L, hu, pre, hb, k⟩ := h
  have q1 := L
  obtain ⟨a, dx, vg, vS, vk, rfl, h1, h2, h3⟩ := L
  have := pre.w4
  have := pre.n3
  show r_Lattice_cut Z (ends Q) [some (.ref a), some u] H
  unfold r_Lattice_cut ends
  walk_at "rd"
  refine ⟨a, _, dx, _, _, rfl, h1, LC.cl, LC.nw, lk_w, ?_⟩
  walk_at "rd"
  refine ⟨u, w, W, rfl, hu, pre.ww, by omega, by omega, hb, fun H1 s1 => ?_⟩
  walk_at "rd"
  exact ⟨.ref a, u, w, g, S, W, rfl, q1.mono s1, Rep.mono s1 hu, pre, fun x H3 s3 n3 L3 => k x H3 (s1.trans s3) (s1.free n3) fun N hN => L3 N fun b z => dom_same s1 (hN b z)⟩
def sp_Lattice_common (Z : Ctx) : Sp := fun us H Q _ => ∃ v u, ∃ w : Nat, ∃ g S : Mat, ∃ c : Row, us = [v, u] ∧ Lat Z H v w g S ∧ rep H u c ∧ c.length = w ∧ w ≤ 1000 ∧ Wid w S ∧ (∀ x ∈ c, -1000000000000000000000000000000 ≤ x ∧ x ≤ 1000000000000000000000000000000) ∧ (∀ i j, CMulG (at0 c j) (ent S i j)) ∧ ∀ H', Same H H' → Q (.int ((comN c S : Nat) : Int)) H'
abbrev r_Lattice_common (Z : Ctx) : TS := (tSeq (tDrop (tCall (sp_check_asked Z) [] E0 (tCons (tLst (tCons (tVar 1) tNil)) (tCons (tFld Z.K (tVar 0) "row_width") tNil)))) (tRet (tCall (sp_common_of Z) [] E0 (tCons (tVar 0) (tCons (tVar 1) tNil)))))
theorem ln_Lattice_common : sp_Lattice_common Z vs H Q E → vs.length = 2 := by rintro ⟨_, _, _, _, _, _, rfl, _⟩; rfl
abbrev nm_Lattice_common : List Str := ["self", "weights"]
theorem rd_Lattice_common (LC : LatCls Z) (h : sp_Lattice_common Z vs H Q E) : r_Lattice_common Z (ends Q) (L2.start nm_Lattice_common vs) H := by
  obtain ⟨v, u, w, g, S, c, rfl, L, hu, hc, hw, hS, hb, cm, k⟩ := h
  have q1 := L
  obtain ⟨a, dx, vg, vS, vk, rfl, h1, h2, h3⟩ := L
  show r_Lattice_common Z (ends Q) [some (.ref a), some u] H
  unfold r_Lattice_common ends
  walk_at "rd"
  refine ⟨small _ (by simp), fun l hl => ?_⟩
  walk_at "rd"
  refine ⟨a, _, dx, _, _, rfl, same_new hl _ _ h1, LC.cl, LC.nw, lk_w, ?_⟩
  walk_at "rd"
  refine ⟨.ref l, w, [c], rfl, one_row hu hl, by intro x hx; rw [List.mem_singleton.mp hx]; exact hc, by omega, by simp, by intro x hx; rw [List.mem_singleton.mp hx]; exact hb, fun H1 s1 => ?_⟩
  walk_at "rd"
  have sm := (same_new hl).trans s1
  exact ⟨.ref a, u, w, g, S, c, rfl, q1.mono sm, Rep.mono sm hu, by rw [hc]; exact hS, by omega, cm, fun H2 s2 => k H2 (sm.trans s2)⟩
end
end G
end
section
set_option Elab.async false
set_option linter.all false
set_option maxRecDepth 100000
namespace G
open PySem L2 PyProof.Rows
local macro_rules | `(tactic| walk_at "rd") => `(tactic| repeat (first
  | (with_reducible refine v_seq ?_)
  | (with_reducible refine v_asg ?_)
  | (with_reducible refine w_cons ?_)
  | (with_reducible refine w_nil ?_)
  | (with_reducible refine w_op ?_)
  | (with_reducible refine w_c ?_)
  | (with_reducible refine w_I0 ?_)
  | (with_reducible refine w_cb ?_)
  | (with_reducible refine w_call ?_)
  | (with_reducible refine v_ret ?_)
  | (with_reducible refine v_next ?_)
  | (with_reducible refine w_ixR (by assumption) (by assumption) ?_)
  | (with_reducible refine w_ix (by assumption) (by assumption) ?_)
  | (with_reducible refine w_test ?_)
  | (with_reducible refine w_tB ?_)
  | (with_reducible refine w_and ?_)
  | (with_reducible refine w_or ?_)
  | (with_reducible refine w_not ?_)
  | (with_reducible refine w_ifE ?_)
  | (with_reducible refine v_ifS ?_)
  | (with_reducible refine w_tt ?_)
  | (with_reducible refine w_ff ?_)
  | (with_reducible refine w_eqI ?_)
  | (with_reducible refine w_neI ?_)
  | (with_reducible refine w_U ?_)
  | (with_reducible refine w_un ?_)
  | (with_reducible refine w_len (by assumption) ?_)
  | (with_reducible refine w_abs ?_)
  | (with_reducible refine w_int ?_)
  | (with_reducible refine w_isN0 ?_)
  | (with_reducible refine w_isN1 (by assumption) ?_)
  | (with_reducible refine w_isN1 ne_in ?_)
  | (with_reducible refine w_isN1 ne_rn ?_)
  | (with_reducible refine w_notN0 ?_)
  | (with_reducible refine w_notN1 ne_in ?_)
  | (with_reducible refine w_notN1 ne_rn ?_)
  | (with_reducible refine v_lst ?_)
  | (with_reducible refine v_tup ?_)
  | (with_reducible refine w_notN1 (by assumption) ?_)
  | (with_reducible refine v_drop ?_)
  | (with_reducible refine w_bm ?_)
  | (with_reducible refine v_for ?_)
  | (with_reducible refine v_rng1 ?_)
  | (with_reducible refine v_rng2 ?_)
  | (with_reducible refine v_list ?_)
  | (with_reducible refine w_sub ?_)
  | (with_reducible refine v_ip ?_)
  | (with_reducible refine v_augS ?_)
  | (with_reducible refine v_retN ?_)
  | (with_reducible refine w_yes ?_)
  | (with_reducible refine tv_0 ?_)
  | (with_reducible refine nv_0 ?_)
  | (with_reducible refine av_0 ?_)
  | (with_reducible refine tv_1 ?_)
  | (with_reducible refine nv_1 ?_)
  | (with_reducible refine av_1 ?_)
  | (with_reducible refine tv_2 ?_)
  | (with_reducible refine nv_2 ?_)
  | (with_reducible refine av_2 ?_)
  | (with_reducible refine tv_3 ?_)
  | (with_reducible refine nv_3 ?_)
  | (with_reducible refine av_3 ?_)
  | (with_reducible refine tv_4 ?_)
  | (with_reducible refine nv_4 ?_)
  | (with_reducible refine av_4 ?_)
  | (with_reducible refine tv_5 ?_)
  | (with_reducible refine nv_5 ?_)
  | (with_reducible refine av_5 ?_)
  | (with_reducible refine tv_6 ?_)
  | (with_reducible refine nv_6 ?_)
  | (with_reducible refine av_6 ?_)
  | (with_reducible refine tv_7 ?_)
  | (with_reducible refine nv_7 ?_)
  | (with_reducible refine av_7 ?_)
  | (with_reducible refine tv_8 ?_)
  | (with_reducible refine nv_8 ?_)
  | (with_reducible refine av_8 ?_)
  | (with_reducible refine tv_9 ?_)
  | (with_reducible refine nv_9 ?_)
  | (with_reducible refine av_9 ?_)
  | (with_reducible refine tv_10 ?_)
  | (with_reducible refine nv_10 ?_)
  | (with_reducible refine av_10 ?_)
  | (with_reducible refine tv_11 ?_)
  | (with_reducible refine nv_11 ?_)
  | (with_reducible refine av_11 ?_)
  | (with_reducible refine tv_12 ?_)
  | (with_reducible refine nv_12 ?_)
  | (with_reducible refine av_12 ?_)
  | (with_reducible refine tv_13 ?_)
  | (with_reducible refine nv_13 ?_)
  | (with_reducible refine av_13 ?_)
  | (with_reducible refine tv_14 ?_)
  | (with_reducible refine nv_14 ?_)
  | (with_reducible refine av_14 ?_)
  | (with_reducible refine tv_15 ?_)
  | (with_reducible refine nv_15 ?_)
  | (with_reducible refine av_15 ?_)
  | (with_reducible refine ⟨_, rfl, ⟨_, SqL.of (by assumption)⟩, ?_⟩)
  | (with_reducible refine ⟨_, rfl, (by omega), (by omega), ?_⟩)
  | (with_reducible refine ⟨w_tyL (by assumption), ?_⟩)
  | (with_reducible refine w_isiII ?_)
  | (with_reducible refine w_isiIB ?_)
  | (with_reducible refine w_isiBB ?_)
  | (with_reducible refine w_isiBI ?_)
  | (with_reducible refine w_isiNL ?_)
  | (with_reducible refine w_isiLL (by assumption) ?_)
  | (with_reducible refine v_sl ?_)
  | (with_reducible refine w_nff ?_)
  | (with_reducible refine w_ntt ?_)
  | (with_reducible refine v_chain ?_)
  | (with_reducible refine v_andV ?_)
  | (with_reducible refine v_orV ?_)
  | (with_reducible refine v_notV ?_)
  | (with_reducible refine v_noP ?_)
  | (with_reducible refine v_part ?_)
  | (with_reducible refine v_fld ?_)
  | (with_reducible refine v_sfld ?_)
  | (with_reducible refine ⟨_, (rfl : V.bl _ = V.bl _), ?_⟩)
  | (with_reducible refine ⟨_, (rfl : V.ref _ = V.ref _), ?_⟩)
  | (with_reducible refine ⟨_, (rfl : [V.int _] = [V.int _]), ?_⟩)
  | (with_reducible refine ⟨_, (rfl : V.int _ = V.int _), ?_⟩)
  | (with_reducible refine ⟨⟨_, SqL.of (by assumption)⟩, ?_⟩)
  | (with_reducible refine ⟨(by (first | omega | (rw [lenV]; omega)) : -(2 ^ 62) ≤ _), (by first | omega | (rw [lenV]; omega)), ?_⟩)
  | (with_reducible refine v_meth ?_)
  | (with_reducible refine v_make ?_)
  | (with_reducible refine w_neBB ?_)
  | (with_reducible refine w_eqBB ?_)
  | (with_reducible refine w_isiRI (by assumption) ?_)
  ))
section
variable {Z : Ctx} {vs : List V} {H : Hp} {Q : VK} {E : XK}
/-- the first row that the stairs do not hold -/
def outF (S' : Mat) (S : Mat) : Option Row := S.find? fun r => !isz (red S' r)
theorem find_at {f : Row → Bool} : ∀ {S : Mat} {i : Nat}, i < S.length → (∀ j, j < i → f (S.getD j []) = false) → f (S.getD i []) = true → S.find? f = some (S.getD i [])
  | [], i, h, _, _ => by simp at h
  | r :: S, 0, _, _, h => by
    have h : f r = true := h
    rw [List.find?_cons, h]
    rfl
  | r :: S, i + 1, hi, h1, h2 => by
    have h0 : f r = false := h1 0 (by omega)
    rw [List.find?_cons, h0]
    exact find_at (S := S) (i := i) (by simpa using hi) (fun j hj => h1 (j + 1) (by omega)) h2
theorem find_no {f : Row → Bool} {S : Mat} (h : ∀ j, j < S.length → f (S.getD j []) = false) : S.find? f = none := by
  rw [List.find?_eq_none]
  intro r hr
  obtain ⟨i, hi, rfl⟩ := mem_getD hr
  rw [h i hi]
  simp
/-- the answer: no row, or a new one -/
def Out (o : Option Row) (H : Hp) (Q : VK) : Prop := (o = none → ∀ H', Same H H' → Q .non H') ∧ ∀ r, o = some r → NewR H r Q
def sp_Lattice_within (Z : Ctx) : Sp := fun vs H Q _ => ∃ v u, ∃ w a b : Nat, ∃ g S g' S' : Mat, vs = [v, u] ∧ Lat Z H v w g S ∧ Lat Z H u w g' S' ∧ (∀ r ∈ S, RedPre S' r a b) ∧ Out (outF S' S) H Q
abbrev r_Lattice_within (Z : Ctx) : TS := (tSeq (tDrop (tCall (sp_check_width Z) [] E0 (tCons (tVar 0) (tCons (tVar 1) tNil)))) (tSeq (tFor (iList Z.K (tFld Z.K (tVar 0) "normal_rows")) (gName 2) (tIfS (tNot (tB (tCall (sp_is_held Z) [] E0 (tCons (tVar 1) (tCons (tVar 2) tNil))))) (tRet (tCB (rLstG Z.K) (tCons (tVar 2) tNil))) tNext)) (tRet (tC .non))))
theorem ln_Lattice_within : sp_Lattice_within Z vs H Q E → vs.length = 2 := by rintro ⟨_, _, _, _, _, _, _, _, _, rfl, _⟩; rfl
abbrev nm_Lattice_within : List Str := ["self", "other", "row"]
theorem rd_Lattice_within (LC : LatCls Z) (h : sp_Lattice_within Z vs H Q E) : r_Lattice_within Z (ends Q) (L2.start nm_Lattice_within vs) H := by
  obtain ⟨v, u, w, na, nb, g, S, g', S', rfl, L, L', pre, k1, k2⟩ := h
  have q1 := L
  have q2 := L'
  obtain ⟨a, dx, vg, vS, vk, rfl, h1, _, ⟨l, xs, rfl, hl, ha⟩⟩ := L
  obtain ⟨a', dx', vg', vS', vk', rfl, h1', _, _⟩ := L'
  have hlen := ha.len
  show r_Lattice_within Z (ends Q) [some (.ref a), some (.ref a'), none] H
  unfold r_Lattice_within ends
  walk_at "rd"
  refine ⟨.ref a, .ref a', w, g, S, g', S', rfl, q1, q2, ?_⟩
  walk_at "rd"
  refine ⟨a, _, dx, _, _, rfl, h1, LC.cl, LC.ns, lk_s, ?_⟩
  refine ⟨l, rfl, ⟨_, SqL.of hl⟩, ?_⟩
  refine forL (xs := xs) (fun i σ H' => ∃ d, σ = [some (.ref a), some (.ref a'), d] ∧ Same H H' ∧ ∀ j, j < i → (!isz (red S' (S.getD j []))) = false) ⟨_, rfl, .refl _, fun j hj => by omega⟩ (fun i σ H' _ ⟨_, _, s, _⟩ => SqL.of (s _ _ hl)) ?_ ?_
  · rintro i x σ H' hi ⟨d, rfl, s, hp⟩
    have hi2 := (List.getElem?_eq_some_iff.mp hi).1
    obtain ⟨q, g1, g2⟩ := mat_at ha (i := i) (by omega)
    rw [g1] at hi
    cases hi
    walk_at "rd"
    refine ⟨.ref a', .ref q, w, g', S', S.getD i [], na, nb, rfl, q2.mono s, rep_row_of (s _ _ g2), pre _ (getD_mem (by omega)), fun H2 s2 => ?_⟩
    have g3 := s2 _ _ (s _ _ g2)
    cases ez : isz (red S' (S.getD i [])) with
    | true =>
      walk_at "rd"
      refine ⟨_, rfl, s.trans s2, fun j hj => ?_⟩
      by_cases z : j = i
      · rw [z, ez]; rfl
      · exact hp j (by omega)
    | false =>
      walk_at "rd"
      refine w_lst g3 fun p n => ?_
      exact k2 (S.getD i []) (find_at (by omega) hp (by rw [ez]; rfl)) p _ ((s.trans s2).trans (same_new n)) ((s.trans s2).free n) upd_same
  · rintro σ H' ⟨d, rfl, s, hp⟩
    rw [hlen] at hp
    walk_at "rd"
    exact k1 (find_no hp) _ s
def sp_law_within_first (Z : Ctx) : Sp := fun vs H Q _ => ∃ v u, ∃ a b : Nat, ∃ S S' : Mat, vs = [v, u] ∧ rep H v S ∧ rep H u S' ∧ (∀ r ∈ S, RedPre S' r a b) ∧ (outF S' S = none → ∀ H', Same H H' → Q .non H') ∧ ∀ r, outF S' S = some r → ∀ x H', Same H H' → rep H' x r → x ≠ .non → Q x H'
abbrev r_law_within_first (Z : Ctx) : TS := (tSeq (tFor (iList Z.K (tVar 0)) (gName 2) (tIfS (tNot (tB (tCall (sp_law_held Z) [] E0 (tCons (tVar 1) (tCons (tVar 2) tNil))))) (tRet (tVar 2)) tNext)) (tRet (tC .non)))
theorem ln_law_within_first : sp_law_within_first Z vs H Q E → vs.length = 2 := by rintro ⟨_, _, _, _, _, _, rfl, _⟩; rfl
abbrev nm_law_within_first : List Str := ["rows", "stairs", "row"]
theorem rd_law_within_first (h : sp_law_within_first Z vs H Q E) : r_law_within_first Z (ends Q) (L2.start nm_law_within_first vs) H := by
  obtain ⟨v, u, na, nb, S, S', rfl, ⟨l, xs, rfl, hl, ha⟩, hS', pre, k1, k2⟩ := h
  have hlen := ha.len
  show r_law_within_first Z (ends Q) [some (.ref l), some u, none] H
  unfold r_law_within_first ends
  walk_at "rd"
  refine forL (xs := xs) (fun i σ H' => ∃ d, σ = [some (.ref l), some u, d] ∧ Same H H' ∧ ∀ j, j < i → (!isz (red S' (S.getD j []))) = false) ⟨_, rfl, .refl _, fun j hj => by omega⟩ (fun i σ H' _ ⟨_, _, s, _⟩ => SqL.of (s _ _ hl)) ?_ ?_
  · rintro i x σ H' hi ⟨d, rfl, s, hp⟩
    have hi2 := (List.getElem?_eq_some_iff.mp hi).1
    obtain ⟨q, g1, g2⟩ := mat_at ha (i := i) (by omega)
    rw [g1] at hi
    cases hi
    walk_at "rd"
    refine ⟨u, .ref q, S', S.getD i [], na, nb, rfl, Rep.mono s hS', rep_row_of (s _ _ g2), pre _ (getD_mem (by omega)), fun H2 s2 => ?_⟩
    have g3 := s2 _ _ (s _ _ g2)
    cases ez : isz (red S' (S.getD i [])) with
    | true =>
      walk_at "rd"
      refine ⟨_, rfl, s.trans s2, fun j hj => ?_⟩
      by_cases z : j = i
      · rw [z, ez]; rfl
      · exact hp j (by omega)
    | false =>
      walk_at "rd"
      exact k2 (S.getD i []) (find_at (by omega) hp (by rw [ez]; rfl)) _ _ (s.trans s2) (rep_row_of g3) ne_rn
  · rintro σ H' ⟨d, rfl, s, hp⟩
    rw [hlen] at hp
    walk_at "rd"
    exact k1 (find_no hp) _ s
def sp_Lattice_shown (Z : Ctx) : Sp := fun vs H Q _ => ∃ v u x, ∃ w : Nat, ∃ g S W : Mat, ∃ y : Row, vs = [v, u, x] ∧ Lat Z H v w g S ∧ rep H u W ∧ rep H x y ∧ CutPre w S W ∧ y.length = W.length ∧
  (∀ r ∈ W, ∀ x ∈ r, -1000000000000000000000000000000 ≤ x ∧ x ≤ 1000000000000000000000000000000) ∧ (∀ z ∈ y, -1000000000000000000000000000000 ≤ z ∧ z ≤ 1000000000000000000000000000000) ∧ Tells S W w y H Q
abbrev r_Lattice_shown (Z : Ctx) : TS := (tSeq (tDrop (tCall (sp_check_numbers Z) [] E0 (tCons (tVar 2) (tCons (tC (.int 1000000000000000000000000000000)) tNil)))) (tSeq (tDrop (tCall (sp_check_asked Z) [] E0 (tCons (tVar 1) (tCons (tFld Z.K (tVar 0) "row_width") tNil)))) (tSeq (tIfS (tNot (tB (tCall (sp_whole_list Z) [] E0 (tCons (tVar 2) (tCons (tCB (rLenG Z.K) (tCons (tVar 1) tNil)) tNil))))) tNever tNext) (tRet (tCall (sp_shown_row Z) [] E0 (tCons (tFld Z.K (tVar 0) "row_width") (tCons (tFld Z.K (tVar 0) "normal_rows") (tCons (tVar 1) (tCons (tVar 2) tNil)))))))))
theorem ln_Lattice_shown : sp_Lattice_shown Z vs H Q E → vs.length = 3 := by rintro ⟨_, _, _, _, _, _, _, _, rfl, _⟩; rfl
abbrev nm_Lattice_shown : List Str := ["self", "weights_list", "wanted"]
theorem rd_Lattice_shown (LC : LatCls Z) (h : sp_Lattice_shown Z vs H Q E) : r_Lattice_shown Z (ends Q) (L2.start nm_Lattice_shown vs) H := by
  obtain ⟨v, u, x, w, g, S, W, y, rfl, L, ⟨m, ys, rfl, hm, hmb⟩, hx, pre, hy, hb, hyb, k1, k2⟩ := h
  have hu : rep H (.ref m) W := ⟨m, ys, rfl, hm, hmb⟩
  have e2 := hmb.len
  have q1 := L
  obtain ⟨a, dx, vg, vS, vk, rfl, h1, h2, h3⟩ := L
  have := pre.w4
  have := pre.n3
  show r_Lattice_shown Z (ends Q) [some (.ref a), some (.ref m), some x] H
  unfold r_Lattice_shown ends
  walk_at "rd"
  refine ⟨x, _, y, rfl, hx, hyb, ?_⟩
  walk_at "rd"
  refine ⟨a, _, dx, _, _, rfl, h1, LC.cl, LC.nw, lk_w, ?_⟩
  walk_at "rd"
  refine ⟨.ref m, w, W, rfl, hu, pre.ww, by omega, by omega, hb, fun H1 s1 => ?_⟩
  have hm1 := s1 _ _ hm
  walk_at "rd"
  refine ⟨x, ys.length, y, rfl, Rep.mono s1 hx, by omega, by omega, fun H2 s2 => ?_⟩
  have s12 := s1.trans s2
  walk_at "rd"
  refine ⟨a, _, dx, _, _, rfl, s12 _ _ h1, LC.cl, LC.nw, lk_w, ?_⟩
  walk_at "rd"
  refine ⟨a, _, dx, _, _, rfl, s12 _ _ h1, LC.cl, LC.ns, lk_s, ?_⟩
  walk_at "rd"
  exact ⟨vS, .ref m, x, w, S, W, y, rfl, Rep.mono s12 h3, Rep.mono s12 hu, Rep.mono s12 hx, pre, hy, rb100 hyb, fun ez => newR_up s12 (k1 ez), fun ez H3 s3 => k2 ez H3 (s12.trans s3)⟩
end
end G
end
section
set_option Elab.async false
set_option linter.all false
set_option maxRecDepth 100000
namespace G
open PySem L2 PyProof.Rows
local macro_rules | `(tactic| walk_at "rd") => `(tactic| repeat (first
  | (with_reducible refine v_seq ?_)
  | (with_reducible refine v_asg ?_)
  | (with_reducible refine w_cons ?_)
  | (with_reducible refine w_nil ?_)
  | (with_reducible refine w_op ?_)
  | (with_reducible refine w_c ?_)
  | (with_reducible refine w_I0 ?_)
  | (with_reducible refine w_cb ?_)
  | (with_reducible refine w_call ?_)
  | (with_reducible refine v_ret ?_)
  | (with_reducible refine v_next ?_)
  | (with_reducible refine w_ixR (by assumption) (by assumption) ?_)
  | (with_reducible refine w_ix (by assumption) (by assumption) ?_)
  | (with_reducible refine w_test ?_)
  | (with_reducible refine w_tB ?_)
  | (with_reducible refine w_and ?_)
  | (with_reducible refine w_or ?_)
  | (with_reducible refine w_not ?_)
  | (with_reducible refine w_ifE ?_)
  | (with_reducible refine v_ifS ?_)
  | (with_reducible refine w_tt ?_)
  | (with_reducible refine w_ff ?_)
  | (with_reducible refine w_eqI ?_)
  | (with_reducible refine w_neI ?_)
  | (with_reducible refine w_U ?_)
  | (with_reducible refine w_un ?_)
  | (with_reducible refine w_len (by assumption) ?_)
  | (with_reducible refine w_abs ?_)
  | (with_reducible refine w_int ?_)
  | (with_reducible refine w_isN0 ?_)
  | (with_reducible refine w_isN1 (by assumption) ?_)
  | (with_reducible refine w_isN1 ne_in ?_)
  | (with_reducible refine w_isN1 ne_rn ?_)
  | (with_reducible refine w_notN0 ?_)
  | (with_reducible refine w_notN1 ne_in ?_)
  | (with_reducible refine w_notN1 ne_rn ?_)
  | (with_reducible refine v_lst ?_)
  | (with_reducible refine v_tup ?_)
  | (with_reducible refine w_notN1 (by assumption) ?_)
  | (with_reducible refine v_drop ?_)
  | (with_reducible refine w_bm ?_)
  | (with_reducible refine v_for ?_)
  | (with_reducible refine v_rng1 ?_)
  | (with_reducible refine v_rng2 ?_)
  | (with_reducible refine v_list ?_)
  | (with_reducible refine w_sub ?_)
  | (with_reducible refine v_ip ?_)
  | (with_reducible refine v_augS ?_)
  | (with_reducible refine v_retN ?_)
  | (with_reducible refine w_yes ?_)
  | (with_reducible refine tv_0 ?_)
  | (with_reducible refine nv_0 ?_)
  | (with_reducible refine av_0 ?_)
  | (with_reducible refine tv_1 ?_)
  | (with_reducible refine nv_1 ?_)
  | (with_reducible refine av_1 ?_)
  | (with_reducible refine tv_2 ?_)
  | (with_reducible refine nv_2 ?_)
  | (with_reducible refine av_2 ?_)
  | (with_reducible refine tv_3 ?_)
  | (with_reducible refine nv_3 ?_)
  | (with_reducible refine av_3 ?_)
  | (with_reducible refine tv_4 ?_)
  | (with_reducible refine nv_4 ?_)
  | (with_reducible refine av_4 ?_)
  | (with_reducible refine tv_5 ?_)
  | (with_reducible refine nv_5 ?_)
  | (with_reducible refine av_5 ?_)
  | (with_reducible refine tv_6 ?_)
  | (with_reducible refine nv_6 ?_)
  | (with_reducible refine av_6 ?_)
  | (with_reducible refine tv_7 ?_)
  | (with_reducible refine nv_7 ?_)
  | (with_reducible refine av_7 ?_)
  | (with_reducible refine tv_8 ?_)
  | (with_reducible refine nv_8 ?_)
  | (with_reducible refine av_8 ?_)
  | (with_reducible refine tv_9 ?_)
  | (with_reducible refine nv_9 ?_)
  | (with_reducible refine av_9 ?_)
  | (with_reducible refine tv_10 ?_)
  | (with_reducible refine nv_10 ?_)
  | (with_reducible refine av_10 ?_)
  | (with_reducible refine tv_11 ?_)
  | (with_reducible refine nv_11 ?_)
  | (with_reducible refine av_11 ?_)
  | (with_reducible refine tv_12 ?_)
  | (with_reducible refine nv_12 ?_)
  | (with_reducible refine av_12 ?_)
  | (with_reducible refine tv_13 ?_)
  | (with_reducible refine nv_13 ?_)
  | (with_reducible refine av_13 ?_)
  | (with_reducible refine tv_14 ?_)
  | (with_reducible refine nv_14 ?_)
  | (with_reducible refine av_14 ?_)
  | (with_reducible refine tv_15 ?_)
  | (with_reducible refine nv_15 ?_)
  | (with_reducible refine av_15 ?_)
  | (with_reducible refine ⟨_, rfl, ⟨_, SqL.of (by assumption)⟩, ?_⟩)
  | (with_reducible refine ⟨_, rfl, (by omega), (by omega), ?_⟩)
  | (with_reducible refine ⟨w_tyL (by assumption), ?_⟩)
  | (with_reducible refine w_isiII ?_)
  | (with_reducible refine w_isiIB ?_)
  | (with_reducible refine w_isiBB ?_)
  | (with_reducible refine w_isiBI ?_)
  | (with_reducible refine w_isiNL ?_)
  | (with_reducible refine w_isiLL (by assumption) ?_)
  | (with_reducible refine v_sl ?_)
  | (with_reducible refine w_nff ?_)
  | (with_reducible refine w_ntt ?_)
  | (with_reducible refine v_chain ?_)
  | (with_reducible refine v_andV ?_)
  | (with_reducible refine v_orV ?_)
  | (with_reducible refine v_notV ?_)
  | (with_reducible refine v_noP ?_)
  | (with_reducible refine v_part ?_)
  | (with_reducible refine v_fld ?_)
  | (with_reducible refine v_sfld ?_)
  | (with_reducible refine ⟨_, (rfl : V.bl _ = V.bl _), ?_⟩)
  | (with_reducible refine ⟨_, (rfl : V.ref _ = V.ref _), ?_⟩)
  | (with_reducible refine ⟨_, (rfl : [V.int _] = [V.int _]), ?_⟩)
  | (with_reducible refine ⟨_, (rfl : V.int _ = V.int _), ?_⟩)
  | (with_reducible refine ⟨⟨_, SqL.of (by assumption)⟩, ?_⟩)
  | (with_reducible refine ⟨(by (first | omega | (rw [lenV]; omega)) : -(2 ^ 62) ≤ _), (by first | omega | (rw [lenV]; omega)), ?_⟩)
  | (with_reducible refine v_meth ?_)
  | (with_reducible refine v_make ?_)
  | (with_reducible refine w_neBB ?_)
  | (with_reducible refine w_eqBB ?_)
  | (with_reducible refine w_isiRI (by assumption) ?_)
  ))
section
variable {Z : Ctx} {vs : List V} {H : Hp} {Q : VK} {E : XK}
theorem out_none {S S' : Mat} (h : outF S' S = none) {r : Row} (hr : r ∈ S) : isz (red S' r) = true := by
  have := List.find?_eq_none.mp h r hr
  simpa using this
theorem in_of_zero {w : Nat} {S : Mat} {r : Row} (hS : Wid w S) (hr : r.length = w) (hz : isz (red S r) = true) : Spn w S r := by
  obtain ⟨h1, h2⟩ := red_span hS hr S.length (Nat.le_refl _)
  rw [redF_all] at h1 h2
  have e : less r 1 (red S r) = r := row_ext (less_length _ _ _) fun i => by
    rw [at0_less (by omega), isz_iff.mp hz i]
    simp
  rw [e] at h2
  exact h2
/-- normal rows of a small lattice -/
structure Nrm (w : Nat) (S : Mat) : Prop where
  hs : ∃ L, Hs w S L
  w4 : w ≤ 4
  le : S.length ≤ 4
  sz : Le (2 ^ 3108) S
theorem Nrm.red {w : Nat} {S : Mat} {r : Row} (h : Nrm w S) (hr : r.length = w) (hb : RB (2 ^ 3108) r) : RedPre S r 3108 3108 := by
  obtain ⟨L, q⟩ := h.hs
  have := h.w4
  have := h.le
  refine ⟨by rw [hr]; exact q.wid, by omega, by omega, fun i hi => ?_, h.sz, hb, ?_⟩
  · obtain ⟨p, _, hp, _⟩ := q.lead hi
    exact ⟨p, hp⟩
  · have : S.length * (3108 + 1) ≤ 4 * (3108 + 1) := Nat.mul_le_mul_right _ (by omega)
    omega
theorem nrm_of {w : Nat} {m : Mat} (hw : Wid w m) (h4 : w ≤ 4) (hb : Le (2 ^ 20) m) : Nrm w (stairs m w) :=
  ⟨stairs_hs hw, h4, Nat.le_trans (stF_inv hw hb w).2.2.2.2.2.1 h4, normal_size hw h4 hb⟩
/-- a product's size -/
theorem prod_bd {n b : Nat} {f : Nat → Int} (h : ∀ i, i < n → (f i).natAbs ≤ 2 ^ b) : (prodTo n f).natAbs ≤ 2 ^ (n * b) := by
  induction n with
  | zero => simp [prodTo]
  | succ n ih =>
    have h1 := ih fun i hi => h i (by omega)
    have h2 := h n (by omega)
    show (prodTo n f * f n).natAbs ≤ _
    rw [Int.natAbs_mul, Nat.succ_mul, Nat.pow_add]
    exact Nat.mul_le_mul h1 h2
@[irreducible] def bigC : Nat := 8000000
theorem bigC_eq : bigC = 8000000 := by unfold bigC; rfl
theorem steps_size {w : Nat} {S S' : Mat} (h : Nrm w S) (h' : Nrm w S') : Le (2 ^ 15544) (S.map (coor S')) ∧ Le (2 ^ bigC) (stepsOf S' S) := by
  obtain ⟨L, q⟩ := h.hs
  obtain ⟨L', q'⟩ := h'.hs
  have c : Le (2 ^ 15544) (S.map (coor S')) := le_iff.mpr fun r hr => by
    obtain ⟨x, hx, rfl⟩ := List.mem_map.mp hr
    exact coor_size q'.wid (q.wid x hx) h'.le h'.sz (le_iff.mp h.sz x hx)
  refine ⟨c, ?_⟩
  have h3 := (stF_inv (coor_wid (Y := S') (M := S)) c S'.length).2.2.1
  have s9 := sbit_le 15544 S'.length
  have l9 := lbit_mono 15544 (n := S'.length) (k := 4) h'.le
  have e : lbit 15544 4 = 3979519 := by decide
  have eC := bigC_eq
  exact h3.mono (by omega)
def sp_Lattice_classes (Z : Ctx) : Sp := fun vs H Q _ => ∃ v u, ∃ w : Nat, ∃ g S g' S' : Mat, vs = [v, u] ∧ Lat Z H v w g S ∧ Lat Z H u w g' S' ∧ Nrm w S ∧ Nrm w S' ∧ outF S' S = none ∧
  ∀ H', Same H H' → Q (.int (if S.length = S'.length then prodTo S'.length (fun i => ent (stepsOf S' S) i i) else 0)) H'
abbrev r_Lattice_classes (Z : Ctx) : TS := (tSeq (tIfS (tOr (tTest (tOp rNe (tFld Z.K (tVar 1) "row_width") (tFld Z.K (tVar 0) "row_width"))) (tTest (tOp rNotNo (tMeth (Z.cls "Lattice") "within" (sp_Lattice_within Z) [] E0 (tVar 0) (tCons (tVar 1) tNil)) (tC .non)))) tNever tNext) (tSeq (tIfS (tTest (tOp rNe (tMeth (Z.cls "Lattice") "rank" (sp_Lattice_rank Z) [] E0 (tVar 0) tNil) (tMeth (Z.cls "Lattice") "rank" (sp_Lattice_rank Z) [] E0 (tVar 1) tNil))) (tRet (tC (.int 0))) tNext) (tSeq (tAsg (tCall (sp_stairs_of Z) [] E0 (tCons (tLc (iList Z.K (tFld Z.K (tVar 0) "normal_rows")) (gName 3) tYes (tCall (sp_stair_amounts Z) [] E0 (tCons (tFld Z.K (tVar 1) "normal_rows") (tCons (tVar 3) tNil))) [3]) (tCons (tMeth (Z.cls "Lattice") "rank" (sp_Lattice_rank Z) [] E0 (tVar 0) tNil) tNil))) (gName 2)) (tSeq (tAsg (tC (.int 1)) (gName 4)) (tSeq (tFor (iRng1 (tCons (tCB (rLenG Z.K) (tCons (tVar 2) tNil)) tNil)) (gName 5) (tAug 4 (tOp (rIxG Z.K) (tOp (rIxG Z.K) (tVar 2) (tVar 5)) (tVar 5)) ipMulI)) (tRet (tVar 4)))))))
theorem ln_Lattice_classes : sp_Lattice_classes Z vs H Q E → vs.length = 2 := by rintro ⟨_, _, _, _, _, _, _, rfl, _⟩; rfl
abbrev nm_Lattice_classes : List Str := ["self", "other", "steps", "row", "many", "place"]
theorem rd_Lattice_classes (LC : LatCls Z) (h : sp_Lattice_classes Z vs H Q E) : r_Lattice_classes Z (ends Q) (L2.start nm_Lattice_classes vs) H := by
  obtain ⟨v, u, w, g, S, g', S', rfl, L, L', nS, nS', ho, k⟩ := h
  have q1 := L
  have q2 := L'
  obtain ⟨LS, hs⟩ := nS.hs
  obtain ⟨LS', hs'⟩ := nS'.hs
  have w4 := nS.w4
  have l4 := nS.le
  have l4' := nS'.le
  obtain ⟨a, dx, vg, vS, vk, rfl, h1, _, ⟨l, xs, rfl, hl, ha⟩⟩ := L
  obtain ⟨a', dx', vg', vS', vk', rfl, h1', _, h3'⟩ := L'
  have hlen := ha.len
  show r_Lattice_classes Z (ends Q) [some (.ref a), some (.ref a'), none, none, none, none] H
  unfold r_Lattice_classes ends
  walk_at "rd"
  refine ⟨a', _, dx', _, _, rfl, h1', LC.cl, LC.nw, lk_w, ?_⟩
  walk_at "rd"
  refine ⟨a, _, dx, _, _, rfl, h1, LC.cl, LC.nw, lk_w, ?_⟩
  walk_at "rd"
  refine w_ite (fun h => absurd rfl h) (fun _ => ?_)
  walk_at "rd"
  refine lat_meth q1 (fun _ _ _ => lk_no (by decide +kernel) (by decide +kernel) (by decide +kernel) (by decide +kernel)) ?_
  walk_at "rd"
  refine ⟨.ref a, .ref a', w, 3108, 3108, g, S, g', S', rfl, q1, q2, fun r hr => nS'.red (hs.wid r hr) (le_iff.mp nS.sz r hr), fun _ H1 s1 => ?_, fun r hr => by rw [ho] at hr; cases hr⟩
  walk_at "rd"
  refine lat_meth (q1.mono s1) (fun _ _ _ => lk_no (by decide +kernel) (by decide +kernel) (by decide +kernel) (by decide +kernel)) ?_
  walk_at "rd"
  refine ⟨.ref a, w, g, S, rfl, q1.mono s1, ?_⟩
  walk_at "rd"
  refine lat_meth (q2.mono s1) (fun _ _ _ => lk_no (by decide +kernel) (by decide +kernel) (by decide +kernel) (by decide +kernel)) ?_
  walk_at "rd"
  refine ⟨.ref a', w, g', S', rfl, q2.mono s1, ?_⟩
  walk_at "rd"
  refine w_ite (fun h => ?_) (fun h => ?_)
  · walk_at "rd"
    have := k H1 s1
    rw [if_neg (by omega)] at this
    exact this
  · have hL : S.length = S'.length := by omega
    have k := fun H' s => k H' s
    simp only [hL, if_true] at k
    have hl1 := s1 _ _ hl
    walk_at "rd"
    refine lcLT (xs := xs) (fun R h => by walk_at "rd"; exact ⟨a, _, dx, _, _, rfl, s1 _ _ h1, LC.cl, LC.ns, lk_s, ⟨_, rfl, ⟨_, SqL.of hl1⟩, h⟩⟩) (dom H1) (fun i => coor S' (S.getD i [])) (SqL.of hl1) (by omega) (fun _ h => h) (fun _ => rfl) (fun i x H2 M1 hi s2 so dm R k2 => ?_) ?_
    · have hi2 := (List.getElem?_eq_some_iff.mp hi).1
      obtain ⟨q, g1, g2⟩ := mat_at ha (i := i) (by omega)
      rw [g1] at hi
      cases hi
      have s12 := s1.trans s2
      have mr : S.getD i [] ∈ S := getD_mem (by omega)
      show tCall _ _ _ _ [some (.ref a), some (.ref a'), none, some (.ref q), none, none] H2 R
      walk_at "rd"
      refine ⟨a', _, dx', _, _, rfl, s12 _ _ h1', LC.cl, LC.ns, lk_s, ?_⟩
      walk_at "rd"
      exact ⟨vS', .ref q, S', S.getD i [], 3108, 3108, w, LS', rfl, Rep.mono s12 h3', rep_row_of (s12 _ _ g2), nS'.red (hs.wid _ mr) (le_iff.mp nS.sz _ mr), hs', in_of_zero hs'.wid (hs.wid _ mr) (out_none ho mr), fun p H3 s3 n3 e3 => k2 _ _ s3 (rep_row_of (off_in (fun z => dm _ z n3) e3))⟩
    · have e : (List.range xs.length).map (fun i => coor S' (S.getD i [])) = S.map (coor S') := by
        rw [hlen]
        conv => rhs; rw [← list_eq_range S, List.map_map]
        rfl
      rw [e]
      intro p3 x3 H3 s3 n3 e3 a3
      walk_at "rd"
      refine lat_meth (q1.mono (s1.trans s3)) (fun _ _ _ => lk_no (by decide +kernel) (by decide +kernel) (by decide +kernel) (by decide +kernel)) ?_
      walk_at "rd"
      refine ⟨.ref a, w, g, S, rfl, q1.mono (s1.trans s3), ?_⟩
      walk_at "rd"
      rw [hL]
      obtain ⟨c1, c2⟩ := steps_size nS nS'
      refine ⟨.ref p3, S'.length, S'.length, 15544, S.map (coor S'), rfl, ⟨p3, x3, rfl, e3, all2_mono off_same a3⟩, ⟨coor_wid, Nat.le_refl _, by omega, by omega, by rw [List.length_map]; omega, .inl ⟨c1, fun n hn => by
        have l9 := lbit_mono 15544 (n := n) (k := 4) (by omega)
        have e : lbit 15544 4 = 3979519 := by decide
        omega⟩⟩, fun p4 x4 H4 s4 n4 e4 a4 => ?_⟩
      have a4 : All2 (rep (off H4 (wth (dom H3) p4))) x4 (stepsOf S' S) := a4
      obtain ⟨t1, _⟩ := classes_ok hs' hs hL fun r hr => in_of_zero hs'.wid (hs.wid r hr) (out_none ho hr)
      have l4x := a4.len
      obtain ⟨LT, hT⟩ := stairs_hs (coor_wid (Y := S') (M := S))
      have wT : Wid S'.length (stepsOf S' S) := hT.wid
      walk_at "rd"
      refine forR (n := x4.length) (fun i σ H' => ∃ b, σ = [some (.ref a), some (.ref a'), some (.ref p4), none, some (.int (prodTo i fun i => ent (stepsOf S' S) i i)), b] ∧ H' = H4) ⟨_, rfl, rfl⟩ ?_ ?_
      · rintro i σ H' hi ⟨b, rfl, rfl⟩
        obtain ⟨q, g1, g2⟩ := mat_at a4 (i := i) (by omega)
        have g3 := off_same _ _ g2
        have g4 := at0_get (r := (stepsOf S' S).getD i []) (i := i) (by rw [wT.get (by omega)]; omega)
        show tAug _ _ _ _ [some (.ref a), some (.ref a'), some (.ref p4), none, some (.int (prodTo i fun i => ent (stepsOf S' S) i i)), some (.int (i : Int))] H'
        walk_at "rd"
        refine w_ipMul (CMulG.of (bd_of (prod_bd (b := bigC) fun j _ => c2 j j)) (bd_of (c2 i i)) ?_) ?_
        · have : i * bigC ≤ 4 * bigC := Nat.mul_le_mul_right _ (by omega)
          have eC := bigC_eq
          omega
        · exact ⟨_, rfl, rfl⟩
      · rintro σ H' ⟨b, rfl, rfl⟩
        walk_at "rd"
        rw [l4x, t1]
        exact k _ (s1.trans (s3.trans s4))
end
end G
end
section
set_option Elab.async false
set_option linter.all false
set_option maxRecDepth 100000
namespace G
open PySem L2 PyProof.Rows
local macro_rules | `(tactic| walk_at "rd") => `(tactic| repeat (first
  | (with_reducible refine v_seq ?_)
  | (with_reducible refine v_asg ?_)
  | (with_reducible refine w_cons ?_)
  | (with_reducible refine w_nil ?_)
  | (with_reducible refine w_op ?_)
  | (with_reducible refine w_c ?_)
  | (with_reducible refine w_I0 ?_)
  | (with_reducible refine w_cb ?_)
  | (with_reducible refine w_call ?_)
  | (with_reducible refine v_ret ?_)
  | (with_reducible refine v_next ?_)
  | (with_reducible refine w_ixR (by assumption) (by assumption) ?_)
  | (with_reducible refine w_ix (by assumption) (by assumption) ?_)
  | (with_reducible refine w_test ?_)
  | (with_reducible refine w_tB ?_)
  | (with_reducible refine w_and ?_)
  | (with_reducible refine w_or ?_)
  | (with_reducible refine w_not ?_)
  | (with_reducible refine w_ifE ?_)
  | (with_reducible refine v_ifS ?_)
  | (with_reducible refine w_tt ?_)
  | (with_reducible refine w_ff ?_)
  | (with_reducible refine w_eqI ?_)
  | (with_reducible refine w_neI ?_)
  | (with_reducible refine w_U ?_)
  | (with_reducible refine w_un ?_)
  | (with_reducible refine w_len (by assumption) ?_)
  | (with_reducible refine w_abs ?_)
  | (with_reducible refine w_int ?_)
  | (with_reducible refine w_isN0 ?_)
  | (with_reducible refine w_isN1 (by assumption) ?_)
  | (with_reducible refine w_isN1 ne_in ?_)
  | (with_reducible refine w_isN1 ne_rn ?_)
  | (with_reducible refine w_notN0 ?_)
  | (with_reducible refine w_notN1 ne_in ?_)
  | (with_reducible refine w_notN1 ne_rn ?_)
  | (with_reducible refine v_lst ?_)
  | (with_reducible refine v_tup ?_)
  | (with_reducible refine w_notN1 (by assumption) ?_)
  | (with_reducible refine v_drop ?_)
  | (with_reducible refine w_bm ?_)
  | (with_reducible refine v_for ?_)
  | (with_reducible refine v_rng1 ?_)
  | (with_reducible refine v_rng2 ?_)
  | (with_reducible refine v_list ?_)
  | (with_reducible refine w_sub ?_)
  | (with_reducible refine v_ip ?_)
  | (with_reducible refine v_augS ?_)
  | (with_reducible refine v_retN ?_)
  | (with_reducible refine w_yes ?_)
  | (with_reducible refine tv_0 ?_)
  | (with_reducible refine nv_0 ?_)
  | (with_reducible refine av_0 ?_)
  | (with_reducible refine tv_1 ?_)
  | (with_reducible refine nv_1 ?_)
  | (with_reducible refine av_1 ?_)
  | (with_reducible refine tv_2 ?_)
  | (with_reducible refine nv_2 ?_)
  | (with_reducible refine av_2 ?_)
  | (with_reducible refine tv_3 ?_)
  | (with_reducible refine nv_3 ?_)
  | (with_reducible refine av_3 ?_)
  | (with_reducible refine tv_4 ?_)
  | (with_reducible refine nv_4 ?_)
  | (with_reducible refine av_4 ?_)
  | (with_reducible refine tv_5 ?_)
  | (with_reducible refine nv_5 ?_)
  | (with_reducible refine av_5 ?_)
  | (with_reducible refine tv_6 ?_)
  | (with_reducible refine nv_6 ?_)
  | (with_reducible refine av_6 ?_)
  | (with_reducible refine tv_7 ?_)
  | (with_reducible refine nv_7 ?_)
  | (with_reducible refine av_7 ?_)
  | (with_reducible refine tv_8 ?_)
  | (with_reducible refine nv_8 ?_)
  | (with_reducible refine av_8 ?_)
  | (with_reducible refine tv_9 ?_)
  | (with_reducible refine nv_9 ?_)
  | (with_reducible refine av_9 ?_)
  | (with_reducible refine tv_10 ?_)
  | (with_reducible refine nv_10 ?_)
  | (with_reducible refine av_10 ?_)
  | (with_reducible refine tv_11 ?_)
  | (with_reducible refine nv_11 ?_)
  | (with_reducible refine av_11 ?_)
  | (with_reducible refine tv_12 ?_)
  | (with_reducible refine nv_12 ?_)
  | (with_reducible refine av_12 ?_)
  | (with_reducible refine tv_13 ?_)
  | (with_reducible refine nv_13 ?_)
  | (with_reducible refine av_13 ?_)
  | (with_reducible refine tv_14 ?_)
  | (with_reducible refine nv_14 ?_)
  | (with_reducible refine av_14 ?_)
  | (with_reducible refine tv_15 ?_)
  | (with_reducible refine nv_15 ?_)
  | (with_reducible refine av_15 ?_)
  | (with_reducible refine ⟨_, rfl, ⟨_, SqL.of (by assumption)⟩, ?_⟩)
  | (with_reducible refine ⟨_, rfl, (by omega), (by omega), ?_⟩)
  | (with_reducible refine ⟨w_tyL (by assumption), ?_⟩)
  | (with_reducible refine w_isiII ?_)
  | (with_reducible refine w_isiIB ?_)
  | (with_reducible refine w_isiBB ?_)
  | (with_reducible refine w_isiBI ?_)
  | (with_reducible refine w_isiNL ?_)
  | (with_reducible refine w_isiLL (by assumption) ?_)
  | (with_reducible refine v_sl ?_)
  | (with_reducible refine w_nff ?_)
  | (with_reducible refine w_ntt ?_)
  | (with_reducible refine v_chain ?_)
  | (with_reducible refine v_andV ?_)
  | (with_reducible refine v_orV ?_)
  | (with_reducible refine v_notV ?_)
  | (with_reducible refine v_noP ?_)
  | (with_reducible refine v_part ?_)
  | (with_reducible refine v_fld ?_)
  | (with_reducible refine v_sfld ?_)
  | (with_reducible refine ⟨_, (rfl : V.bl _ = V.bl _), ?_⟩)
  | (with_reducible refine ⟨_, (rfl : V.ref _ = V.ref _), ?_⟩)
  | (with_reducible refine ⟨_, (rfl : [V.int _] = [V.int _]), ?_⟩)
  | (with_reducible refine ⟨_, (rfl : V.int _ = V.int _), ?_⟩)
  | (with_reducible refine ⟨⟨_, SqL.of (by assumption)⟩, ?_⟩)
  | (with_reducible refine ⟨(by (first | omega | (rw [lenV]; omega)) : -(2 ^ 62) ≤ _), (by first | omega | (rw [lenV]; omega)), ?_⟩)
  | (with_reducible refine v_meth ?_)
  | (with_reducible refine v_make ?_)
  | (with_reducible refine w_neBB ?_)
  | (with_reducible refine w_eqBB ?_)
  | (with_reducible refine w_isiRI (by assumption) ?_)
  ))
section
variable {Z : Ctx} {vs : List V} {H : Hp} {Q : VK} {E : XK}
/-- a row cut to these places -/
def pick (P r : Row) : Row := P.map fun z => at0 r z.toNat
def sp_Lattice_at_places (Z : Ctx) : Sp := fun vs H Q _ => ∃ v u, ∃ w b : Nat, ∃ g S : Mat, ∃ P : Row, vs = [v, u] ∧ Lat Z H v w g S ∧ rep H u P ∧ (∀ z ∈ P, 0 ≤ z ∧ z < (w : Int)) ∧ Wid w g ∧ P.length ≤ 1000 ∧ g.length ≤ 900 ∧ StPre P.length P.length b (g.map (pick P)) ∧
  ∀ x H', Same H H' → H x = none → (∀ N : Addr → Prop, (∀ a, N a → dom H a) → Lat Z (off H' N) (.ref x) P.length (g.map (pick P)) (stairs (g.map (pick P)) P.length)) → Q (.ref x) H'
abbrev r_Lattice_at_places (Z : Ctx) : TS := (tSeq (tFor (iList Z.K (tVar 1)) (gName 2) (tIfS (tNot (tTest (tChain rLeI rLtI (tC (.int 0)) (tVar 2) (tFld Z.K (tVar 0) "row_width")))) tNever tNext)) (tRet (tCall (sp_lattice_of Z) [] E0 (tCons (tCB (rLenG Z.K) (tCons (tVar 1) tNil)) (tCons (tLc (iList Z.K (tFld Z.K (tVar 0) "given_rows")) (gName 3) tYes (tLc (iList Z.K (tVar 1)) (gName 2) tYes (tOp (rIxG Z.K) (tVar 3) (tVar 2)) [2]) [3]) tNil)))))
theorem ln_Lattice_at_places : sp_Lattice_at_places Z vs H Q E → vs.length = 2 := by rintro ⟨_, _, _, _, _, _, _, rfl, _⟩; rfl
abbrev nm_Lattice_at_places : List Str := ["self", "places", "place", "row"]
theorem rd_Lattice_at_places (LC : LatCls Z) (h : sp_Lattice_at_places Z vs H Q E) : r_Lattice_at_places Z (ends Q) (L2.start nm_Lattice_at_places vs) H := by
  obtain ⟨v, u, w, b, g, S, P, rfl, L, hu, hP, hg, hPl, hgl, pre, k⟩ := h
  obtain ⟨a, dx, vg, vS, vk, rfl, h1, ⟨l, xs, rfl, hl, ha⟩, _⟩ := L
  obtain ⟨p, rfl, hp⟩ := rep_row.mp hu
  have hlen := ha.len
  show r_Lattice_at_places Z (ends Q) [some (.ref a), some (.ref p), none, none] H
  unfold r_Lattice_at_places ends
  walk_at "rd"
  refine forL (xs := P.map V.int) (fun i σ H' => ∃ c, σ = [some (.ref a), some (.ref p), c, none] ∧ H' = H) ⟨_, rfl, rfl⟩ (fun i σ H' _ ⟨_, _, h⟩ => h ▸ SqL.of hp) ?_ ?_
  · rintro i x σ H' hi ⟨c, rfl, rfl⟩
    obtain ⟨z, hz, rfl⟩ := row_at hi
    have hz2 := hP z (List.mem_of_getElem? hz)
    walk_at "rd"
    refine w_ite (fun h => ?_) (fun h => absurd hz2.1 h)
    walk_at "rd"
    refine ⟨a, _, dx, _, _, rfl, h1, LC.cl, LC.nw, lk_w, ?_⟩
    walk_at "rd"
    refine w_nite (fun _ => ?_) (fun h => absurd hz2.2 h)
    walk_at "rd"
    exact ⟨_, rfl, rfl⟩
  rintro σ H' ⟨c, rfl, rfl⟩
  walk_at "rd"
  rw [lenV]
  refine lcLT (xs := xs) (fun R h => by walk_at "rd"; exact ⟨a, _, dx, _, _, rfl, h1, LC.cl, LC.ng, lk_g, ⟨_, rfl, ⟨_, SqL.of hl⟩, h⟩⟩) (dom H') (fun i => pick P (g.getD i [])) (SqL.of hl) (by omega) (fun _ h => h) (fun _ => rfl) (fun i x H2 M1 hi s2 so dm R k2 => ?_) ?_
  · have hi2 := (List.getElem?_eq_some_iff.mp hi).1
    obtain ⟨q, g1, g2⟩ := mat_at ha (i := i) (by omega)
    rw [g1] at hi
    cases hi
    have g3 := s2 _ _ g2
    have hp2 := s2 _ _ hp
    have wl := hg.get (i := i) (by omega)
    show tLc _ _ _ _ _ [some (.ref a), some (.ref p), c, some (.ref q)] H2 R
    refine lcLrT (xs := P.map V.int) (fun R h => by walk_at "rd"; exact h) (fun j => at0 (g.getD i []) (at0 P j).toNat) (SqL.of hp2) (by rw [lenV]; omega) (fun _ => rfl) (fun j x H3 hj s3 R3 k3 => ?_) ?_
    · obtain ⟨z, hz, rfl⟩ := row_at hj
      have hz2 := hP z (List.mem_of_getElem? hz)
      obtain rfl := at0_some hz
      have g4 := s3 _ _ g3
      have g5 := at0_get (r := g.getD i []) (i := (at0 P j).toNat) (by omega)
      show tOp _ _ _ [some (.ref a), some (.ref p), some (.int (at0 P j)), some (.ref q)] H3 R3
      walk_at "rd"
      refine w_ixAt (at0 P j).toNat _ (by omega) g4 (show _ = some (V.int (at0 (g.getD i []) (at0 P j).toNat)) by rw [List.getElem?_map, g5]; rfl) ?_
      exact k3 _ (.refl _)
    · rw [map_at0 P fun z => at0 (g.getD i []) z.toNat]
      intro p4 H4 s4 n4 e4
      exact k2 _ _ s4 (rep_row_of (off_in (fun z => dm _ z n4) e4))
  · have e : (List.range xs.length).map (fun i => pick P (g.getD i [])) = g.map (pick P) := by
      rw [hlen]
      conv => rhs; rw [← list_eq_range g, List.map_map]
      rfl
    rw [e]
    intro p5 x5 H5 s5 n5 e5 a5
    walk_at "rd"
    exact ⟨.ref p5, _, P.length, b, g.map (pick P), rfl, rfl, ⟨p5, x5, rfl, e5, all2_mono off_same a5⟩, pre, fun x H6 s6 n6 L6 => k x H6 (s5.trans s6) (s5.free n6) fun N hN => L6 N fun b z => dom_same s5 (hN b z)⟩
end
end G
end
section
set_option Elab.async false
set_option linter.all false
set_option maxRecDepth 100000
namespace G
open PySem L2 PyProof.Rows
local macro_rules | `(tactic| walk_at "rd") => `(tactic| repeat (first
  | (with_reducible refine v_seq ?_)
  | (with_reducible refine v_asg ?_)
  | (with_reducible refine w_cons ?_)
  | (with_reducible refine w_nil ?_)
  | (with_reducible refine w_op ?_)
  | (with_reducible refine w_c ?_)
  | (with_reducible refine w_I0 ?_)
  | (with_reducible refine w_cb ?_)
  | (with_reducible refine w_call ?_)
  | (with_reducible refine v_ret ?_)
  | (with_reducible refine v_next ?_)
  | (with_reducible refine w_ixR (by assumption) (by assumption) ?_)
  | (with_reducible refine w_ix (by assumption) (by assumption) ?_)
  | (with_reducible refine w_test ?_)
  | (with_reducible refine w_tB ?_)
  | (with_reducible refine w_and ?_)
  | (with_reducible refine w_or ?_)
  | (with_reducible refine w_not ?_)
  | (with_reducible refine w_ifE ?_)
  | (with_reducible refine v_ifS ?_)
  | (with_reducible refine w_tt ?_)
  | (with_reducible refine w_ff ?_)
  | (with_reducible refine w_eqI ?_)
  | (with_reducible refine w_neI ?_)
  | (with_reducible refine w_U ?_)
  | (with_reducible refine w_un ?_)
  | (with_reducible refine w_len (by assumption) ?_)
  | (with_reducible refine w_abs ?_)
  | (with_reducible refine w_int ?_)
  | (with_reducible refine w_isN0 ?_)
  | (with_reducible refine w_isN1 (by assumption) ?_)
  | (with_reducible refine w_isN1 ne_in ?_)
  | (with_reducible refine w_isN1 ne_rn ?_)
  | (with_reducible refine w_notN0 ?_)
  | (with_reducible refine w_notN1 ne_in ?_)
  | (with_reducible refine w_notN1 ne_rn ?_)
  | (with_reducible refine v_lst ?_)
  | (with_reducible refine v_tup ?_)
  | (with_reducible refine w_notN1 (by assumption) ?_)
  | (with_reducible refine v_drop ?_)
  | (with_reducible refine w_bm ?_)
  | (with_reducible refine v_for ?_)
  | (with_reducible refine v_rng1 ?_)
  | (with_reducible refine v_rng2 ?_)
  | (with_reducible refine v_list ?_)
  | (with_reducible refine w_sub ?_)
  | (with_reducible refine v_ip ?_)
  | (with_reducible refine v_augS ?_)
  | (with_reducible refine v_retN ?_)
  | (with_reducible refine w_yes ?_)
  | (with_reducible refine tv_0 ?_)
  | (with_reducible refine nv_0 ?_)
  | (with_reducible refine av_0 ?_)
  | (with_reducible refine tv_1 ?_)
  | (with_reducible refine nv_1 ?_)
  | (with_reducible refine av_1 ?_)
  | (with_reducible refine tv_2 ?_)
  | (with_reducible refine nv_2 ?_)
  | (with_reducible refine av_2 ?_)
  | (with_reducible refine tv_3 ?_)
  | (with_reducible refine nv_3 ?_)
  | (with_reducible refine av_3 ?_)
  | (with_reducible refine tv_4 ?_)
  | (with_reducible refine nv_4 ?_)
  | (with_reducible refine av_4 ?_)
  | (with_reducible refine tv_5 ?_)
  | (with_reducible refine nv_5 ?_)
  | (with_reducible refine av_5 ?_)
  | (with_reducible refine tv_6 ?_)
  | (with_reducible refine nv_6 ?_)
  | (with_reducible refine av_6 ?_)
  | (with_reducible refine tv_7 ?_)
  | (with_reducible refine nv_7 ?_)
  | (with_reducible refine av_7 ?_)
  | (with_reducible refine tv_8 ?_)
  | (with_reducible refine nv_8 ?_)
  | (with_reducible refine av_8 ?_)
  | (with_reducible refine tv_9 ?_)
  | (with_reducible refine nv_9 ?_)
  | (with_reducible refine av_9 ?_)
  | (with_reducible refine tv_10 ?_)
  | (with_reducible refine nv_10 ?_)
  | (with_reducible refine av_10 ?_)
  | (with_reducible refine tv_11 ?_)
  | (with_reducible refine nv_11 ?_)
  | (with_reducible refine av_11 ?_)
  | (with_reducible refine tv_12 ?_)
  | (with_reducible refine nv_12 ?_)
  | (with_reducible refine av_12 ?_)
  | (with_reducible refine tv_13 ?_)
  | (with_reducible refine nv_13 ?_)
  | (with_reducible refine av_13 ?_)
  | (with_reducible refine tv_14 ?_)
  | (with_reducible refine nv_14 ?_)
  | (with_reducible refine av_14 ?_)
  | (with_reducible refine tv_15 ?_)
  | (with_reducible refine nv_15 ?_)
  | (with_reducible refine av_15 ?_)
  | (with_reducible refine ⟨_, rfl, ⟨_, SqL.of (by assumption)⟩, ?_⟩)
  | (with_reducible refine ⟨_, rfl, (by omega), (by omega), ?_⟩)
  | (with_reducible refine ⟨w_tyL (by assumption), ?_⟩)
  | (with_reducible refine w_isiII ?_)
  | (with_reducible refine w_isiIB ?_)
  | (with_reducible refine w_isiBB ?_)
  | (with_reducible refine w_isiBI ?_)
  | (with_reducible refine w_isiNL ?_)
  | (with_reducible refine w_isiLL (by assumption) ?_)
  | (with_reducible refine v_sl ?_)
  | (with_reducible refine w_nff ?_)
  | (with_reducible refine w_ntt ?_)
  | (with_reducible refine v_chain ?_)
  | (with_reducible refine v_andV ?_)
  | (with_reducible refine v_orV ?_)
  | (with_reducible refine v_notV ?_)
  | (with_reducible refine v_noP ?_)
  | (with_reducible refine v_part ?_)
  | (with_reducible refine v_fld ?_)
  | (with_reducible refine v_sfld ?_)
  | (with_reducible refine ⟨_, (rfl : V.bl _ = V.bl _), ?_⟩)
  | (with_reducible refine ⟨_, (rfl : V.ref _ = V.ref _), ?_⟩)
  | (with_reducible refine ⟨_, (rfl : [V.int _] = [V.int _]), ?_⟩)
  | (with_reducible refine ⟨_, (rfl : V.int _ = V.int _), ?_⟩)
  | (with_reducible refine ⟨⟨_, SqL.of (by assumption)⟩, ?_⟩)
  | (with_reducible refine ⟨(by (first | omega | (rw [lenV]; omega)) : -(2 ^ 62) ≤ _), (by first | omega | (rw [lenV]; omega)), ?_⟩)
  | (with_reducible refine v_meth ?_)
  | (with_reducible refine v_make ?_)
  | (with_reducible refine w_neBB ?_)
  | (with_reducible refine w_eqBB ?_)
  | (with_reducible refine w_isiRI (by assumption) ?_)
  ))
section
variable {σ : L2.St} {H : Hp} {Q : VK} {K : PySem.W.Frag} {wi : TI} {te : TE} {vs : List Nat} {j : Nat} {p : Addr} {P : Row → Prop}
structure Lcq (H : Hp) (p : Addr) (P : Row → Prop) (D : Addr) (i : Nat) (H' : Hp) : Prop where
  c : Chg p H H'
  pu : PurseAt H' p
  n : H D = none
  l : ∃ xs, ∃ m : Mat, H' D = some (.lst xs) ∧ All2 (rep (off H' (wth (fun a => a = p) D))) xs m ∧ m.length = i ∧ ∀ r ∈ m, P r
theorem Lcq.snoc {D q : Addr} {i : Nat} {H1 H2 : Hp} {r : Row} (hp : PurseAt H p) (L : Lcq H p P D i H1) (hi : i < 1000000) (hr : P r) (c : Chg p H1 H2) (pu : PurseAt H2 p) (nq : H1 q = none) (eq : H2 q = some (.lst (r.map V.int))) :
    ∃ acc, H2 D = some (.lst acc) ∧ acc.length < sizeLine ∧ Lcq H p P D (i + 1) (upd H2 D (.lst (acc ++ [.ref q]))) := by
  obtain ⟨xs, m, e, a, hl, h⟩ := L.l
  have n := hp.ne (H0 := H) L.n
  have al := a.len
  refine ⟨_, c _ _ n e, ?_, ⟨(L.c.trans c).mut L.n, pu.upd n, L.n, xs ++ [.ref q], m ++ [r], upd_same, ?_, ?_, ?_⟩⟩
  · rw [al, hl]
    exact Nat.lt_of_lt_of_le hi (by decide)
  · rw [off_upd wth_l]
    refine (all2_mono (c.off (M := wth (fun a => a = p) D) (.inl rfl)) a).snoc (rep_row_of (off_in (fun z => ?_) eq))
    rcases z with z | z
    · exact L.pu.ne (H0 := H1) nq z
    · rw [z, e] at nq; cases nq
  · rw [List.length_append, hl]
    rfl
  · intro x hx
    rcases List.mem_append.mp hx with hx | hx
    · exact h x hx
    · rw [List.mem_singleton.mp hx]
      exact hr
/-- rows by draws -/
theorem lcRQ {n : Nat} (hi : ∀ R : It → Hp → Prop, R (Itr 0 n) H → wi σ H R) (hp : PurseAt H p) (hz : n ≤ 1000000) (hw : ∀ x, wipe ((wipe σ vs).set j (some x)) vs = wipe σ vs)
    (he : ∀ (i : Nat) H1, i < n → Chg p H H1 → PurseAt H1 p → ∀ R : VK, (∀ q r H2, Chg p H1 H2 → PurseAt H2 p → H1 q = none → H2 q = some (.lst (r.map V.int)) → P r → R (.ref q) H2) → te ((wipe σ vs).set j (some (.int (i : Int)))) H1 R)
    (hd : NewPL p (fun m => m.length = n ∧ ∀ r ∈ m, P r) H Q) : tLc wi (gName j) tYes te vs σ H Q := v_lc (hi _ fun D hD =>
  lc_range (lo := 0) (n := n) (Lcq H p P D) ⟨(Chg.refl H).mut hD, hp.upd (hp.ne (H0 := H) hD), hD, [], [], upd_same, trivial, rfl, fun _ h => absurd h (by simp)⟩ (fun i H1 hi L => by
    refine ⟨hw _, ?_⟩
    have e0 : (0 : Int) + (i : Int) = (i : Int) := Int.zero_add _
    rw [e0]
    refine w_yes ?_
    refine iteT ?_
    exact he i H1 hi L.c L.pu _ fun q r H2 c pu nq eq hr => L.snoc hp (by omega) hr c pu nq eq) fun H' L => by
    obtain ⟨xs, m, e, a, hl, h⟩ := L.l
    exact hd D xs m H' L.c L.pu L.n e a ⟨hl, h⟩)
end
section
variable {Z : Ctx} {vs : List V} {H : Hp} {Q : VK} {E : XK}
theorem cm_small {w n : Nat} {m : Mat} (h : Rows6 w n m) (a : Row) (i j : Nat) : CMulG (at0 a i) (ent m i j) := .r (by
  have h2 := le20 (m := m) (fun r hr y hy => h.sm r hr y hy) i j
  have e : (2 : Nat) ^ 20 = 1048576 := by decide
  have e2 : (2 : Nat) ^ 64 = 18446744073709551616 := by decide
  unfold Bd
  omega)
theorem Rows6.le {w n n' : Nat} {m : Mat} (h : Rows6 w n m) (e : n ≤ n') : Rows6 w n' m := ⟨h.wid, Nat.le_trans h.len e, h.sm⟩
theorem Rows6.app {w n n' : Nat} {m m' : Mat} (h : Rows6 w n m) (h' : Rows6 w n' m') : Rows6 w (n + n') (m ++ m') := by
  refine ⟨fun r hr => ?_, by rw [List.length_append]; have := h.len; have := h'.len; omega, fun r hr => ?_⟩
  · rcases List.mem_append.mp hr with z | z
    · exact h.wid r z
    · exact h'.wid r z
  · rcases List.mem_append.mp hr with z | z
    · exact h.sm r z
    · exact h'.sm r z
/-- weights -/
structure Wt (w : Nat) (W : Mat) : Prop where
  wid : Wid w W
  len : W.length ≤ 3
  sm : ∀ r ∈ W, ∀ x ∈ r, -3 ≤ x ∧ x ≤ 3
def sp_law_weights_drawn (Z : Ctx) : Sp := fun vs H Q _ => ∃ p, ∃ w : Nat, vs = [.ref p, .int (w : Int)] ∧ PurseAt H p ∧ w ≤ 1000 ∧ NewPL p (Wt w) H Q
abbrev r_law_weights_drawn (Z : Ctx) : TS := (tRet (tLc (iRng1 (tCons (tCall (sp_law_draw Z) [] E0 (tCons (tVar 0) (tCons (tC (.int 4)) tNil))) tNil)) (gName 3) tYes (tLc (iRng1 (tCons (tVar 1) tNil)) (gName 2) tYes (tOp rSubI (tCall (sp_law_draw Z) [] E0 (tCons (tVar 0) (tCons (tC (.int 7)) tNil))) (tC (.int 3))) [2]) [3]))
theorem ln_law_weights_drawn : sp_law_weights_drawn Z vs H Q E → vs.length = 2 := by rintro ⟨_, _, rfl, _⟩; rfl
abbrev nm_law_weights_drawn : List Str := ["purse", "width", "place", "turn"]
theorem rd_law_weights_drawn (h : sp_law_weights_drawn Z vs H Q E) : r_law_weights_drawn Z (ends Q) (L2.start nm_law_weights_drawn vs) H := by
  obtain ⟨p, w, rfl, hp, hw, k⟩ := h
  show r_law_weights_drawn Z (ends Q) [some (.ref p), some (.int (w : Int)), none, none] H
  unfold r_law_weights_drawn ends
  walk_at "rd"
  refine v_lc ?_
  walk_at "rd"
  refine ⟨p, _, rfl, hp, by decide, fun z H1 c1 p1 l1 l2 => ?_⟩
  obtain ⟨t, rfl⟩ := Int.eq_ofNat_of_zero_le l1
  walk_at "rd"
  refine lcRQ (wi := fun _ H' R => R (Itr 0 t) H') (σ := [some (.ref p), some (.int (w : Int)), none, none]) (n := t) (p := p) (P := fun r => r.length = w ∧ ∀ x ∈ r, -3 ≤ x ∧ x ≤ 3) (fun R h => h) p1 (by omega) (fun _ => rfl) (fun i H2 hi c2 p2 R k2 => ?_) (fun D xs m H2 c2 p2 n2 e2 a2 hm => ?_)
  · show tLc _ _ _ _ _ [some (.ref p), some (.int (w : Int)), none, some (.int (i : Int))] H2 R
    refine lcRP (n := w) (p := p) (P := fun x => -3 ≤ x ∧ x ≤ 3) (fun R h => by walk_at "rd"; exact h) p2 (by omega) (fun _ => rfl) (fun j H3 hj c3 p3 R k3 => ?_) (fun q r H3 c3 p3 n3 e3 lr sr => k2 q r H3 c3 p3 n3 e3 ⟨lr, sr⟩)
    show tOp _ _ _ [some (.ref p), some (.int (w : Int)), some (.int (j : Int)), some (.int (i : Int))] H3 R
    walk_at "rd"
    refine ⟨p, _, rfl, p3, by decide, fun y H4 c4 p4 l3 l4 => ?_⟩
    walk_at "rd"
    exact k3 _ H4 (by omega) c4 p4
  · exact k D xs m H2 (c1.trans c2) p2 (c1.fresh p1 n2) e2 a2 ⟨fun r hr => (hm.2 r hr).1, by omega, fun r hr => (hm.2 r hr).2⟩
def sp_law_pack_rows (Z : Ctx) : Sp := fun vs H Q _ => ∃ p, ∃ w : Nat, vs = [.ref p, .int (w : Int)] ∧ PurseAt H p ∧ w ≤ 1000 ∧ NewPL p (Rows6 w w) H Q
abbrev r_law_pack_rows (Z : Ctx) : TS := (tRet (tLc (iRng1 (tCons (tVar 1) tNil)) (gName 3) tYes (tLc (iRng1 (tCons (tVar 1) tNil)) (gName 2) tYes (tIf (tTest (tOp rEq (tVar 2) (tVar 3))) (tOp rAddI (tC (.int 2)) (tCall (sp_law_draw Z) [] E0 (tCons (tVar 0) (tCons (tC (.int 11)) tNil)))) (tC (.int 0))) [2]) [3]))
theorem ln_law_pack_rows : sp_law_pack_rows Z vs H Q E → vs.length = 2 := by rintro ⟨_, _, rfl, _⟩; rfl
abbrev nm_law_pack_rows : List Str := ["purse", "width", "at", "place"]
theorem rd_law_pack_rows (h : sp_law_pack_rows Z vs H Q E) : r_law_pack_rows Z (ends Q) (L2.start nm_law_pack_rows vs) H := by
  obtain ⟨p, w, rfl, hp, hw, k⟩ := h
  show r_law_pack_rows Z (ends Q) [some (.ref p), some (.int (w : Int)), none, none] H
  unfold r_law_pack_rows ends
  walk_at "rd"
  refine lcRQ (n := w) (p := p) (P := fun r => r.length = w ∧ ∀ x ∈ r, Sm x) (fun R h => by walk_at "rd"; exact h) hp (by omega) (fun _ => rfl) (fun i H2 hi c2 p2 R k2 => ?_) (fun D xs m H2 c2 p2 n2 e2 a2 hm => ?_)
  · show tLc _ _ _ _ _ [some (.ref p), some (.int (w : Int)), none, some (.int (i : Int))] H2 R
    refine lcRP (n := w) (p := p) (P := Sm) (fun R h => by walk_at "rd"; exact h) p2 (by omega) (fun _ => rfl) (fun j H3 hj c3 p3 R k3 => ?_) (fun q r H3 c3 p3 n3 e3 lr sr => k2 q r H3 c3 p3 n3 e3 ⟨lr, sr⟩)
    show tIf _ _ _ [some (.ref p), some (.int (w : Int)), some (.int (j : Int)), some (.int (i : Int))] H3 R
    walk_at "rd"
    refine w_ite (fun h => ?_) (fun h => ?_)
    · walk_at "rd"
      refine ⟨p, _, rfl, p3, by decide, fun y H4 c4 p4 l3 l4 => ?_⟩
      walk_at "rd"
      exact k3 _ H4 (by unfold Sm; omega) c4 p4
    · walk_at "rd"
      exact k3 _ H3 (by unfold Sm; omega) (.refl _) p3
  · exact k D xs m H2 c2 p2 n2 e2 a2 ⟨fun r hr => (hm.2 r hr).1, by omega, fun r hr => (hm.2 r hr).2⟩
end
end G
end
section
set_option Elab.async false
set_option linter.all false
set_option maxRecDepth 100000
namespace G
open PySem L2 PyProof.Rows
local macro_rules | `(tactic| walk_at "rd") => `(tactic| repeat (first
  | (with_reducible refine v_seq ?_)
  | (with_reducible refine v_asg ?_)
  | (with_reducible refine w_cons ?_)
  | (with_reducible refine w_nil ?_)
  | (with_reducible refine w_op ?_)
  | (with_reducible refine w_c ?_)
  | (with_reducible refine w_I0 ?_)
  | (with_reducible refine w_cb ?_)
  | (with_reducible refine w_call ?_)
  | (with_reducible refine v_ret ?_)
  | (with_reducible refine v_next ?_)
  | (with_reducible refine w_ixR (by assumption) (by assumption) ?_)
  | (with_reducible refine w_ix (by assumption) (by assumption) ?_)
  | (with_reducible refine w_test ?_)
  | (with_reducible refine w_tB ?_)
  | (with_reducible refine w_and ?_)
  | (with_reducible refine w_or ?_)
  | (with_reducible refine w_not ?_)
  | (with_reducible refine w_ifE ?_)
  | (with_reducible refine v_ifS ?_)
  | (with_reducible refine w_tt ?_)
  | (with_reducible refine w_ff ?_)
  | (with_reducible refine w_eqI ?_)
  | (with_reducible refine w_neI ?_)
  | (with_reducible refine w_U ?_)
  | (with_reducible refine w_un ?_)
  | (with_reducible refine w_len (by assumption) ?_)
  | (with_reducible refine w_abs ?_)
  | (with_reducible refine w_int ?_)
  | (with_reducible refine w_isN0 ?_)
  | (with_reducible refine w_isN1 (by assumption) ?_)
  | (with_reducible refine w_isN1 ne_in ?_)
  | (with_reducible refine w_isN1 ne_rn ?_)
  | (with_reducible refine w_notN0 ?_)
  | (with_reducible refine w_notN1 ne_in ?_)
  | (with_reducible refine w_notN1 ne_rn ?_)
  | (with_reducible refine v_lst ?_)
  | (with_reducible refine v_tup ?_)
  | (with_reducible refine w_notN1 (by assumption) ?_)
  | (with_reducible refine v_drop ?_)
  | (with_reducible refine w_bm ?_)
  | (with_reducible refine v_for ?_)
  | (with_reducible refine v_rng1 ?_)
  | (with_reducible refine v_rng2 ?_)
  | (with_reducible refine v_list ?_)
  | (with_reducible refine w_sub ?_)
  | (with_reducible refine v_ip ?_)
  | (with_reducible refine v_augS ?_)
  | (with_reducible refine v_retN ?_)
  | (with_reducible refine w_yes ?_)
  | (with_reducible refine tv_0 ?_)
  | (with_reducible refine nv_0 ?_)
  | (with_reducible refine av_0 ?_)
  | (with_reducible refine tv_1 ?_)
  | (with_reducible refine nv_1 ?_)
  | (with_reducible refine av_1 ?_)
  | (with_reducible refine tv_2 ?_)
  | (with_reducible refine nv_2 ?_)
  | (with_reducible refine av_2 ?_)
  | (with_reducible refine tv_3 ?_)
  | (with_reducible refine nv_3 ?_)
  | (with_reducible refine av_3 ?_)
  | (with_reducible refine tv_4 ?_)
  | (with_reducible refine nv_4 ?_)
  | (with_reducible refine av_4 ?_)
  | (with_reducible refine tv_5 ?_)
  | (with_reducible refine nv_5 ?_)
  | (with_reducible refine av_5 ?_)
  | (with_reducible refine tv_6 ?_)
  | (with_reducible refine nv_6 ?_)
  | (with_reducible refine av_6 ?_)
  | (with_reducible refine tv_7 ?_)
  | (with_reducible refine nv_7 ?_)
  | (with_reducible refine av_7 ?_)
  | (with_reducible refine tv_8 ?_)
  | (with_reducible refine nv_8 ?_)
  | (with_reducible refine av_8 ?_)
  | (with_reducible refine tv_9 ?_)
  | (with_reducible refine nv_9 ?_)
  | (with_reducible refine av_9 ?_)
  | (with_reducible refine tv_10 ?_)
  | (with_reducible refine nv_10 ?_)
  | (with_reducible refine av_10 ?_)
  | (with_reducible refine tv_11 ?_)
  | (with_reducible refine nv_11 ?_)
  | (with_reducible refine av_11 ?_)
  | (with_reducible refine tv_12 ?_)
  | (with_reducible refine nv_12 ?_)
  | (with_reducible refine av_12 ?_)
  | (with_reducible refine tv_13 ?_)
  | (with_reducible refine nv_13 ?_)
  | (with_reducible refine av_13 ?_)
  | (with_reducible refine tv_14 ?_)
  | (with_reducible refine nv_14 ?_)
  | (with_reducible refine av_14 ?_)
  | (with_reducible refine tv_15 ?_)
  | (with_reducible refine nv_15 ?_)
  | (with_reducible refine av_15 ?_)
  | (with_reducible refine ⟨_, rfl, ⟨_, SqL.of (by assumption)⟩, ?_⟩)
  | (with_reducible refine ⟨_, rfl, (by omega), (by omega), ?_⟩)
  | (with_reducible refine ⟨w_tyL (by assumption), ?_⟩)
  | (with_reducible refine w_isiII ?_)
  | (with_reducible refine w_isiIB ?_)
  | (with_reducible refine w_isiBB ?_)
  | (with_reducible refine w_isiBI ?_)
  | (with_reducible refine w_isiNL ?_)
  | (with_reducible refine w_isiLL (by assumption) ?_)
  | (with_reducible refine v_sl ?_)
  | (with_reducible refine w_nff ?_)
  | (with_reducible refine w_ntt ?_)
  | (with_reducible refine v_chain ?_)
  | (with_reducible refine v_andV ?_)
  | (with_reducible refine v_orV ?_)
  | (with_reducible refine v_notV ?_)
  | (with_reducible refine v_noP ?_)
  | (with_reducible refine v_part ?_)
  | (with_reducible refine v_fld ?_)
  | (with_reducible refine v_sfld ?_)
  | (with_reducible refine ⟨_, (rfl : V.bl _ = V.bl _), ?_⟩)
  | (with_reducible refine ⟨_, (rfl : V.ref _ = V.ref _), ?_⟩)
  | (with_reducible refine ⟨_, (rfl : [V.int _] = [V.int _]), ?_⟩)
  | (with_reducible refine ⟨_, (rfl : V.int _ = V.int _), ?_⟩)
  | (with_reducible refine ⟨⟨_, SqL.of (by assumption)⟩, ?_⟩)
  | (with_reducible refine ⟨(by (first | omega | (rw [lenV]; omega)) : -(2 ^ 62) ≤ _), (by first | omega | (rw [lenV]; omega)), ?_⟩)
  | (with_reducible refine v_meth ?_)
  | (with_reducible refine v_make ?_)
  | (with_reducible refine w_neBB ?_)
  | (with_reducible refine w_eqBB ?_)
  | (with_reducible refine w_isiRI (by assumption) ?_)
  ))
section
variable {Z : Ctx} {vs : List V} {H : Hp} {Q : VK} {E : XK}
theorem ten5 : (10 : Int) ^ (5 : Int).toNat = 100000 := by decide
theorem rep_chg {α : Type} [Rep α] {H H' : Hp} {p : Addr} {v : V} {a : α} (c : Chg p H H') (h : rep (off H fun a => a = p) v a) : rep (off H' fun a => a = p) v a := Rep.mono (c.off (M := fun a => a = p) rfl) h
theorem same_off {H H' : Hp} {p : Addr} (s : Same H H') : Same (off H fun a => a = p) (off H' fun a => a = p) := off_mono s
/-- the greatest size within a row -/
def mxB (r : Row) (k : Int) : Bool := r.all fun x => decide ((x.natAbs : Int) ≤ k)
theorem mxB_dec {r : Row} {k mx : Int} (h1 : mx ∈ r.map fun x => (x.natAbs : Int)) (h2 : ∀ y ∈ r.map (fun x => (x.natAbs : Int)), y ≤ mx) : decide (mx ≤ k) = mxB r k := by
  unfold mxB
  rw [Bool.eq_iff_iff, decide_eq_true_iff, List.all_eq_true]
  constructor
  · intro h x hx
    have := h2 _ (List.mem_map.mpr ⟨x, hx, rfl⟩)
    exact decide_eq_true (by omega)
  · intro h
    obtain ⟨y, hy, rfl⟩ := List.mem_map.mp h1
    exact of_decide_eq_true (h y hy)
theorem mxB_sm {r : Row} (h : mxB r 1000000 = true) : ∀ x ∈ r, Sm x := fun x hx => by
  have := of_decide_eq_true (List.all_eq_true.mp h x hx)
  unfold Sm
  omega
/-- rows within others -/
structure Inn (w : Nat) (m m' : Mat) : Prop where
  r6 : Rows6 w 7 m'
  sub : Sub w m' m
theorem scale_spn {w : Nat} {m : Mat} {r : Row} (hw : Wid w m) (h : r ∈ m) (k : Int) : Spn w m (r.map fun x => k * x) := by
  have e : (r.map fun x => k * x) = less (zr w) (-k) r := row_ext (by rw [less_length, zr_length, List.length_map, hw r h]) fun i => by
    rw [at0_less (by rw [zr_length, hw r h]), at0_zr]
    by_cases hi : i < r.length
    · have : (r.map fun x => k * x)[i]? = some (k * at0 r i) := by rw [List.getElem?_map, at0_get hi]; rfl
      rw [at0_some this, Int.neg_mul]
      omega
    · rw [at0_out (by rw [List.length_map]; omega), at0_out (r := r) (by omega)]
      simp
  rw [e]
  exact Spn.zero.less hw (.mem hw h) _
def sp_law_inner_rows (Z : Ctx) : Sp := fun vs H Q _ => ∃ p v, ∃ w : Nat, ∃ m : Mat, vs = [.ref p, v, .int (w : Int)] ∧ PurseAt H p ∧ rep (off H fun a => a = p) v m ∧ Rows6 w 4 m ∧ 1 ≤ w ∧ w ≤ 1000 ∧ NewPL p (Inn w m) H Q
abbrev r_law_inner_rows (Z : Ctx) : TS := (tSeq (tAsg (tLst tNil) (gName 3)) (tSeq (tFor (iRng1 (tCons (tIf (tTest (tOp rGtI (tCB (rLenG Z.K) (tCons (tVar 1) tNil)) (tC (.int 0)))) (tCall (sp_law_draw Z) [] E0 (tCons (tVar 0) (tCons (tC (.int 4)) tNil))) (tC (.int 0))) tNil)) (gName 4) (tSeq (tAsg (tLc (iList Z.K (tVar 1)) (gName 6) tYes (tOp rSubI (tCall (sp_law_draw Z) [] E0 (tCons (tVar 0) (tCons (tC (.int 5)) tNil))) (tC (.int 2))) [6]) (gName 5)) (tSeq (tAsg (tCall (sp_law_mixed Z) [] E0 (tCons (tVar 5) (tCons (tVar 1) (tCons (tVar 2) tNil)))) (gName 7)) (tIfS (tTest (tOp rLeI (tCB (rMax Z.K) (tCons (tLc (iList Z.K (tVar 7)) (gName 8) tYes (tCB rAbsG (tCons (tVar 8) tNil)) [8]) tNil)) (tOp rPowI (tC (.int 10)) (tC (.int 6))))) (tDrop (tBM Z.K "list" rAppend (tVar 3) (tCons (tVar 7) tNil))) tNext)))) (tSeq (tIfS (tTest (tOp rEq (tCall (sp_law_draw Z) [] E0 (tCons (tVar 0) (tCons (tC (.int 2)) tNil))) (tC (.int 0)))) (tSeq (tAsg (tOp rAddI (tC (.int 1)) (tCall (sp_law_draw Z) [] E0 (tCons (tVar 0) (tCons (tC (.int 6)) tNil)))) (gName 9)) (tAsg (tOp rCat (tVar 3) (tLc (iList Z.K (tVar 1)) (gName 6) (tTest (tOp rLeI (tCB (rMax Z.K) (tCons (tLc (iList Z.K (tVar 6)) (gName 8) tYes (tCB rAbsG (tCons (tVar 8) tNil)) [8]) tNil)) (tOp rPowI (tC (.int 10)) (tC (.int 5))))) (tLc (iList Z.K (tVar 6)) (gName 8) tYes (tOp rMulI (tVar 9) (tVar 8)) [8]) [6])) (gName 3))) tNext) (tRet (tVar 3)))))
theorem ln_law_inner_rows : sp_law_inner_rows Z vs H Q E → vs.length = 3 := by rintro ⟨_, _, _, _, rfl, _⟩; rfl
abbrev nm_law_inner_rows : List Str := ["purse", "rows", "width", "found", "turn", "amounts", "row", "mixed", "one", "times"]
theorem rd_law_inner_rows (h : sp_law_inner_rows Z vs H Q E) : r_law_inner_rows Z (ends Q) (L2.start nm_law_inner_rows vs) H := by
  obtain ⟨p, v, w, m, rfl, hp, hv, h6, hw0, hw, k⟩ := h
  have hml := h6.len
  have hv' := hv
  obtain ⟨l, xs, rfl, hl, ha⟩ := hv'
  have hlen := ha.len
  have nlp : l ≠ p := (off_some.mp hl).1
  have hl0 := off_same _ _ hl
  show r_law_inner_rows Z (ends Q) [some (.ref p), some (.ref l), some (.int (w : Int)), none, none, none, none, none, none, none] H
  unfold r_law_inner_rows ends
  walk_at "rd"
  refine ⟨by decide, fun D nD => ?_⟩
  have npD := hp.ne (H0 := H) nD
  have sD := same_new (o := .lst []) nD
  have pD := hp.upd (o := .lst []) npD
  have eD : (upd H D (.lst [])) D = some (.lst []) := upd_same
  generalize upd H D (.lst []) = H0 at sD pD eD
  have nlD : l ≠ D := fun z => by rw [z, nD] at hl0; cases hl0
  have fin : ∀ (e4 e5 e6 e7 e8 : Option V) (H' : Hp) (xs : List V) (m' : Mat), Chg p H H' → PurseAt H' p → H' D = some (.lst xs) → All2 (rep (off H' (wth (fun a => a = p) D))) xs m' → Rows6 w 3 m' → Sub w m' m →
      (tSeq (tIfS (tTest (tOp rEq (tCall (sp_law_draw Z) [] E0 (tCons (tVar 0) (tCons (tC (.int 2)) tNil))) (tC (.int 0)))) (tSeq (tAsg (tOp rAddI (tC (.int 1)) (tCall (sp_law_draw Z) [] E0 (tCons (tVar 0) (tCons (tC (.int 6)) tNil)))) (gName 9)) (tAsg (tOp rCat (tVar 3) (tLc (iList Z.K (tVar 1)) (gName 6) (tTest (tOp rLeI (tCB (rMax Z.K) (tCons (tLc (iList Z.K (tVar 6)) (gName 8) tYes (tCB rAbsG (tCons (tVar 8) tNil)) [8]) tNil)) (tOp rPowI (tC (.int 10)) (tC (.int 5))))) (tLc (iList Z.K (tVar 6)) (gName 8) tYes (tOp rMulI (tVar 9) (tVar 8)) [8]) [6])) (gName 3))) tNext) (tRet (tVar 3))) { nx := fun _ H' => Q .non H', rt := Q } [some (.ref p), some (.ref l), some (.int (w : Int)), some (.ref D), e4, e5, e6, e7, e8, none] H' := by
    intro e4 e5 e6 e7 e8 H' xd m' c pu hD aD r6 sub
    have lxd := aD.len
    have l3 := r6.len
    walk_at "rd"
    refine ⟨p, _, rfl, pu, by decide, fun z H1 c1 p1 l1 l2 => ?_⟩
    walk_at "rd"
    refine w_ite (fun h => ?_) (fun h => ?_)
    · walk_at "rd"
      refine ⟨p, _, rfl, p1, by decide, fun z H2 c2 p2 l1 l2 => ?_⟩
      walk_at "rd"
      have htt : 1 ≤ 1 + z ∧ 1 + z ≤ 6 := by omega
      generalize 1 + z = tt at htt
      have btt : Bd 64 tt := by
        have : tt = 1 ∨ tt = 2 ∨ tt = 3 ∨ tt = 4 ∨ tt = 5 ∨ tt = 6 := by omega
        rcases this with h | h | h | h | h | h <;> (rw [h]; exact bdc (by decide))
      have c02 := c.trans (c1.trans c2)
      have hl2 := c02 _ _ nlp hl0
      have rm := rep_chg c02 hv
      obtain ⟨_, xs', e, hl', ha'⟩ := rm
      cases e
      have hl'' := off_same _ _ hl'
      have exs : xs' = xs := by
        rw [hl2] at hl''
        injection hl'' with h
        injection h with h
        exact h.symm
      subst exs
      have hD2 := (c1.trans c2) _ _ npD hD
      have aD2 := all2_mono ((c1.trans c2).off (M := wth (fun a => a = p) D) (.inl rfl)) aD
      refine lcLF (β := Row) (xs := xs') (fun R h => by walk_at "rd"; exact h) (fun a => a = p) (fun i => mxB (m.getD i []) 100000) (fun i => (m.getD i []).map fun x => tt * x) (SqL.of hl2) (by omega) (fun a z => by rw [z]; exact p2.dom) (fun _ => rfl) (fun i x H3 hi s3 R k3 => ?_) (fun i x H3 M3 hi hf s3 so dm R k3 => ?_) ?_
      · have hi2 := (List.getElem?_eq_some_iff.mp hi).1
        obtain ⟨q, g1, g2⟩ := mat_at ha' (i := i) (by omega)
        rw [g1] at hi
        cases hi
        have g3 := s3 _ _ (off_same _ _ g2)
        have lr := h6.wid.get (i := i) (by omega)
        generalize m.getD i [] = r at g3 lr k3
        show tTest _ [some (.ref p), some (.ref l), some (.int (w : Int)), some (.ref D), e4, e5, some (.ref q), e7, e8, some (.int tt)] H3 R
        walk_at "rd"
        refine lcLrT (xs := r.map V.int) (fun R h => by walk_at "rd"; exact h) (fun j => ((at0 r j).natAbs : Int)) (SqL.of g3) (by rw [lenV]; omega) (fun _ => rfl) (fun j x H4 hj s4 R k4 => ?_) ?_
        · obtain ⟨x', hx, rfl⟩ := row_at hj
          obtain rfl := at0_some hx
          show tCB _ _ [some (.ref p), some (.ref l), some (.int (w : Int)), some (.ref D), e4, e5, some (.ref q), e7, some (.int (at0 r j)), some (.int tt)] H4 R
          walk_at "rd"
          exact k4 _ (.refl _)
        · rw [map_at0 r fun x => (x.natAbs : Int)]
          intro q5 H5 s5 n5 e5'
          walk_at "rd"
          refine w_max e5' (by rw [List.length_map]; omega) fun mx hm1 hm2 => ?_
          walk_at "rd"
          refine w_I (cpow _ (by decide) (by decide)) ?_
          walk_at "rd"
          rw [ten5, mxB_dec hm1 hm2]
          exact k3 _ s5
      · have hi2 := (List.getElem?_eq_some_iff.mp hi).1
        obtain ⟨q, g1, g2⟩ := mat_at ha' (i := i) (by omega)
        rw [g1] at hi
        cases hi
        have g3 := s3 _ _ (off_same _ _ g2)
        have lr := h6.wid.get (i := i) (by omega)
        generalize m.getD i [] = r at g3 lr k3
        show tLc _ _ _ _ _ [some (.ref p), some (.ref l), some (.int (w : Int)), some (.ref D), e4, e5, some (.ref q), e7, e8, some (.int tt)] H3 R
        refine lcLrT (xs := r.map V.int) (fun R h => by walk_at "rd"; exact h) (fun j => tt * at0 r j) (SqL.of g3) (by rw [lenV]; omega) (fun _ => rfl) (fun j x H4 hj s4 R k4 => ?_) ?_
        · obtain ⟨x', hx, rfl⟩ := row_at hj
          obtain rfl := at0_some hx
          show tOp _ _ _ [some (.ref p), some (.ref l), some (.int (w : Int)), some (.ref D), e4, e5, some (.ref q), e7, some (.int (at0 r j)), some (.int tt)] H4 R
          walk_at "rd"
          exact w_I (.l btt) (k4 _ (.refl _))
        · rw [map_at0 r fun x => tt * x]
          intro q5 H5 s5 n5 e5'
          exact k3 _ _ s5 (rep_row_of (off_in (fun z => dm _ z n5) e5'))
      · intro D3 x3 H3 s3 n3 e3 a3
        have l3' := a3.len
        rw [List.length_map] at l3'
        have l3'' := List.length_filter_le (fun i => mxB (m.getD i []) 100000) (List.range xs'.length)
        rw [List.length_range] at l3''
        have hN : Rows6 w 4 (((List.range xs'.length).filter fun i => mxB (m.getD i []) 100000).map fun i => (m.getD i []).map fun x => tt * x) := by
          refine ⟨fun r hr => ?_, by rw [List.length_map]; omega, fun r hr x hx => ?_⟩
          · obtain ⟨i, hi, rfl⟩ := List.mem_map.mp hr
            have := List.mem_range.mp (List.mem_filter.mp hi).1
            rw [List.length_map]
            exact h6.wid.get (by omega)
          · obtain ⟨i, hi, rfl⟩ := List.mem_map.mp hr
            obtain ⟨y, hy, rfl⟩ := List.mem_map.mp hx
            have := of_decide_eq_true (List.all_eq_true.mp (List.mem_filter.mp hi).2 y hy)
            unfold Sm
            have : tt = 1 ∨ tt = 2 ∨ tt = 3 ∨ tt = 4 ∨ tt = 5 ∨ tt = 6 := by omega
            rcases this with h | h | h | h | h | h <;> (rw [h]; omega)
        have sN : Sub w (((List.range xs'.length).filter fun i => mxB (m.getD i []) 100000).map fun i => (m.getD i []).map fun x => tt * x) m := fun r hr => by
          obtain ⟨i, hi, rfl⟩ := List.mem_map.mp hr
          have := List.mem_range.mp (List.mem_filter.mp hi).1
          exact scale_spn h6.wid (getD_mem (by omega)) tt
        generalize (((List.range xs'.length).filter fun i => mxB (m.getD i []) 100000).map fun i => (m.getD i []).map fun x => tt * x) = m3 at a3 hN sN
        refine w_cat (s3 _ _ hD2) e3 (by omega) fun D4 n4 => ?_
        have s4 := same_new (o := .lst (xd ++ x3)) n4
        have e4' : (upd H3 D4 (.lst (xd ++ x3))) D4 = some (.lst (xd ++ x3)) := upd_same
        generalize upd H3 D4 (.lst (xd ++ x3)) = H4 at s4 e4'
        walk_at "rd"
        have p3 := p2.same s3
        have c34 : Chg p H2 H4 := .of (s3.trans s4)
        refine k D4 _ (m' ++ m3) H4 (c02.trans c34) (p3.same s4) (c02.fresh p2 (s3.free n4)) e4' ?_ ⟨(r6.app hN).le (by decide), fun r hr => ?_⟩
        · refine (all2_mono (off_imp (s3.trans s4) fun a z => ?_) aD2).app (all2_mono (off_imp s4 fun a z => ?_) a3)
          · rcases z with z | z
            · exact .inl (.inl z)
            · exact .inr (z ▸ s3.free n4)
          · rcases z with z | z
            · exact .inl (.inl z)
            · exact .inr (z ▸ n4)
        · rcases List.mem_append.mp hr with z | z
          · exact sub r z
          · exact sN r z
    · walk_at "rd"
      exact k D xd m' H1 (c.trans c1) p1 nD (c1 _ _ npD hD) (all2_mono (c1.off (M := wth (fun a => a = p) D) (.inl rfl)) aD) ⟨r6.le (by decide), sub⟩
  refine nv_3 (v_seq (v_for (v_rng1 (w_cons (if_post (fun x H' => ∃ t : Nat, x = .int (t : Int) ∧ t ≤ 3 ∧ Chg p H0 H' ∧ PurseAt H' p) ?_ ?_)))))
  rotate_left
  · intro Q' hq
    show tIf _ _ _ [some (.ref p), some (.ref l), some (.int (w : Int)), some (.ref D), none, none, none, none, none, none] H0 Q'
    have hl1 := sD _ _ hl0
    walk_at "rd"
    refine w_ite (fun h => ?_) (fun h => ?_)
    · walk_at "rd"
      refine ⟨p, _, rfl, pD, by decide, fun z H1 c1 p1 l1 l2 => ?_⟩
      obtain ⟨t, rfl⟩ := Int.eq_ofNat_of_zero_le l1
      exact hq _ _ ⟨t, rfl, by omega, c1, p1⟩
    · walk_at "rd"
      exact hq _ _ ⟨0, rfl, by omega, .refl _, pD⟩
  rintro x H1 ⟨t, rfl, ht, c1, p1⟩
  have hD1 := c1 _ _ npD eD
  have c01 := (Chg.of (l := p) sD).trans c1
  walk_at "rd"
  refine forR (n := t) (fun i σ H' => ∃ xd m' e4 e5 e6 e7 e8, σ = [some (.ref p), some (.ref l), some (.int (w : Int)), some (.ref D), e4, e5, e6, e7, e8, none] ∧ Chg p H H' ∧ PurseAt H' p ∧ H' D = some (.lst xd) ∧
      All2 (rep (off H' (wth (fun a => a = p) D))) xd m' ∧ Rows6 w i m' ∧ Sub w m' m) ⟨[], [], _, _, _, _, _, rfl, c01, p1, hD1, trivial, .nil, fun r hr => absurd hr (by simp)⟩ ?_ ?_
  · rintro i σ H' hi ⟨xd, m', e4, e5, e6, e7, e8, rfl, c, pu, hD, aD, r6, sub⟩
    show tSeq _ _ _ [some (.ref p), some (.ref l), some (.int (w : Int)), some (.ref D), some (.int (i : Int)), e5, e6, e7, e8, none] H'
    have lxd := aD.len
    have l6 := r6.len
    have hl1 := c _ _ nlp hl0
    walk_at "rd"
    refine lcLP (p := p) (P := fun _ => True) (xs := xs) (fun R h => by walk_at "rd"; exact h) pu hl1 nlp (by omega) (fun _ => rfl) (fun j x H2 hj c2 p2 R k2 => ?_) (fun A am H2 c2 p2 n2 e2 l2 f2 => ?_)
    · show tOp _ _ _ [some (.ref p), some (.ref l), some (.int (w : Int)), some (.ref D), some (.int (i : Int)), e5, some x, e7, e8, none] H2 R
      walk_at "rd"
      refine ⟨p, _, rfl, p2, by decide, fun z H3 c3 p3 l1 l2 => ?_⟩
      walk_at "rd"
      exact k2 _ H3 trivial c3 p3
    · walk_at "rd"
      refine ⟨.ref A, .ref l, w, am, m, rfl, rep_row_of e2, Rep.mono off_same (rep_chg (c.trans c2) hv), h6.wid, by omega, hw, by omega, fun a b => cm_small h6 am a b, fun q3 H3 s3 n3 e3 => ?_⟩
      have spn := mix_spn h6.wid am
      generalize mixM am m w = mx at e3 spn
      have lmx := spn.len
      walk_at "rd"
      refine lcLrT (xs := mx.map V.int) (fun R h => by walk_at "rd"; exact h) (fun j => ((at0 mx j).natAbs : Int)) (SqL.of e3) (by rw [lenV]; omega) (fun _ => rfl) (fun j x H4 hj s4 R k4 => ?_) ?_
      · obtain ⟨x', hx, rfl⟩ := row_at hj
        obtain rfl := at0_some hx
        show tCB _ _ [some (.ref p), some (.ref l), some (.int (w : Int)), some (.ref D), some (.int (i : Int)), some (.ref A), e6, some (.ref q3), some (.int (at0 mx j)), none] H4 R
        walk_at "rd"
        exact k4 _ (.refl _)
      · rw [map_at0 mx fun x => (x.natAbs : Int)]
        intro q5 H5 s5 n5 e5'
        walk_at "rd"
        refine w_max e5' (by rw [List.length_map]; omega) fun g hm1 hm2 => ?_
        walk_at "rd"
        refine w_I (cpow _ (by decide) (by decide)) ?_
        walk_at "rd"
        rw [ten6, mxB_dec hm1 hm2]
        have c25 : Chg p H' H5 := c2.trans (.of (s3.trans s5))
        have p5 := p2.same (s3.trans s5)
        have hD5 := c25 _ _ npD hD
        have aD5 := all2_mono (c25.off (M := wth (fun a => a = p) D) (.inl rfl)) aD
        have e35 := s5 _ _ e3
        have nq : H' q3 = none := c2.fresh p2 n3
        refine w_bite (fun h => ?_) (fun h => ?_)
        · walk_at "rd"
          refine w_app hD5 (by omega) ?_
          refine ⟨_, m' ++ [mx], _, _, _, _, _, rfl, (c.trans c25).mut nD, p5.upd npD, upd_same, ?_, r6.snoc lmx (mxB_sm h), fun r hr => ?_⟩
          · rw [off_upd wth_l]
            refine aD5.snoc (rep_row_of (off_in (fun z => ?_) e35))
            rcases z with z | z
            · exact pu.ne (H0 := H') nq z
            · rw [z, hD] at nq; cases nq
          · rcases List.mem_append.mp hr with z | z
            · exact sub r z
            · rw [List.mem_singleton.mp z]; exact spn
        · walk_at "rd"
          exact ⟨xd, m', _, _, _, _, _, rfl, c.trans c25, p5, hD5, aD5, r6.le (by omega), sub⟩
  · rintro σ H' ⟨xd, m', e4, e5, e6, e7, e8, rfl, c, pu, hD, aD, r6, sub⟩
    exact fin _ _ _ _ _ H' xd m' c pu hD aD (r6.le ht) sub
end
end G
end
section
set_option Elab.async false
set_option linter.all false
set_option maxRecDepth 100000
namespace G
open PySem L2 PyProof.Rows
local macro_rules | `(tactic| walk_at "rd") => `(tactic| repeat (first
  | (with_reducible refine v_seq ?_)
  | (with_reducible refine v_asg ?_)
  | (with_reducible refine w_cons ?_)
  | (with_reducible refine w_nil ?_)
  | (with_reducible refine w_op ?_)
  | (with_reducible refine w_c ?_)
  | (with_reducible refine w_I0 ?_)
  | (with_reducible refine w_cb ?_)
  | (with_reducible refine w_call ?_)
  | (with_reducible refine v_ret ?_)
  | (with_reducible refine v_next ?_)
  | (with_reducible refine w_ixR (by assumption) (by assumption) ?_)
  | (with_reducible refine w_ix (by assumption) (by assumption) ?_)
  | (with_reducible refine w_test ?_)
  | (with_reducible refine w_tB ?_)
  | (with_reducible refine w_and ?_)
  | (with_reducible refine w_or ?_)
  | (with_reducible refine w_not ?_)
  | (with_reducible refine w_ifE ?_)
  | (with_reducible refine v_ifS ?_)
  | (with_reducible refine w_tt ?_)
  | (with_reducible refine w_ff ?_)
  | (with_reducible refine w_eqI ?_)
  | (with_reducible refine w_neI ?_)
  | (with_reducible refine w_U ?_)
  | (with_reducible refine w_un ?_)
  | (with_reducible refine w_len (by assumption) ?_)
  | (with_reducible refine w_abs ?_)
  | (with_reducible refine w_int ?_)
  | (with_reducible refine w_isN0 ?_)
  | (with_reducible refine w_isN1 (by assumption) ?_)
  | (with_reducible refine w_isN1 ne_in ?_)
  | (with_reducible refine w_isN1 ne_rn ?_)
  | (with_reducible refine w_notN0 ?_)
  | (with_reducible refine w_notN1 ne_in ?_)
  | (with_reducible refine w_notN1 ne_rn ?_)
  | (with_reducible refine v_lst ?_)
  | (with_reducible refine v_tup ?_)
  | (with_reducible refine w_notN1 (by assumption) ?_)
  | (with_reducible refine v_drop ?_)
  | (with_reducible refine w_bm ?_)
  | (with_reducible refine v_for ?_)
  | (with_reducible refine v_rng1 ?_)
  | (with_reducible refine v_rng2 ?_)
  | (with_reducible refine v_list ?_)
  | (with_reducible refine w_sub ?_)
  | (with_reducible refine v_ip ?_)
  | (with_reducible refine v_augS ?_)
  | (with_reducible refine v_retN ?_)
  | (with_reducible refine w_yes ?_)
  | (with_reducible refine tv_0 ?_)
  | (with_reducible refine nv_0 ?_)
  | (with_reducible refine av_0 ?_)
  | (with_reducible refine tv_1 ?_)
  | (with_reducible refine nv_1 ?_)
  | (with_reducible refine av_1 ?_)
  | (with_reducible refine tv_2 ?_)
  | (with_reducible refine nv_2 ?_)
  | (with_reducible refine av_2 ?_)
  | (with_reducible refine tv_3 ?_)
  | (with_reducible refine nv_3 ?_)
  | (with_reducible refine av_3 ?_)
  | (with_reducible refine tv_4 ?_)
  | (with_reducible refine nv_4 ?_)
  | (with_reducible refine av_4 ?_)
  | (with_reducible refine tv_5 ?_)
  | (with_reducible refine nv_5 ?_)
  | (with_reducible refine av_5 ?_)
  | (with_reducible refine tv_6 ?_)
  | (with_reducible refine nv_6 ?_)
  | (with_reducible refine av_6 ?_)
  | (with_reducible refine tv_7 ?_)
  | (with_reducible refine nv_7 ?_)
  | (with_reducible refine av_7 ?_)
  | (with_reducible refine tv_8 ?_)
  | (with_reducible refine nv_8 ?_)
  | (with_reducible refine av_8 ?_)
  | (with_reducible refine tv_9 ?_)
  | (with_reducible refine nv_9 ?_)
  | (with_reducible refine av_9 ?_)
  | (with_reducible refine tv_10 ?_)
  | (with_reducible refine nv_10 ?_)
  | (with_reducible refine av_10 ?_)
  | (with_reducible refine tv_11 ?_)
  | (with_reducible refine nv_11 ?_)
  | (with_reducible refine av_11 ?_)
  | (with_reducible refine tv_12 ?_)
  | (with_reducible refine nv_12 ?_)
  | (with_reducible refine av_12 ?_)
  | (with_reducible refine tv_13 ?_)
  | (with_reducible refine nv_13 ?_)
  | (with_reducible refine av_13 ?_)
  | (with_reducible refine tv_14 ?_)
  | (with_reducible refine nv_14 ?_)
  | (with_reducible refine av_14 ?_)
  | (with_reducible refine tv_15 ?_)
  | (with_reducible refine nv_15 ?_)
  | (with_reducible refine av_15 ?_)
  | (with_reducible refine ⟨_, rfl, ⟨_, SqL.of (by assumption)⟩, ?_⟩)
  | (with_reducible refine ⟨_, rfl, (by omega), (by omega), ?_⟩)
  | (with_reducible refine ⟨w_tyL (by assumption), ?_⟩)
  | (with_reducible refine w_isiII ?_)
  | (with_reducible refine w_isiIB ?_)
  | (with_reducible refine w_isiBB ?_)
  | (with_reducible refine w_isiBI ?_)
  | (with_reducible refine w_isiNL ?_)
  | (with_reducible refine w_isiLL (by assumption) ?_)
  | (with_reducible refine v_sl ?_)
  | (with_reducible refine w_nff ?_)
  | (with_reducible refine w_ntt ?_)
  | (with_reducible refine v_chain ?_)
  | (with_reducible refine v_andV ?_)
  | (with_reducible refine v_orV ?_)
  | (with_reducible refine v_notV ?_)
  | (with_reducible refine v_noP ?_)
  | (with_reducible refine v_part ?_)
  | (with_reducible refine v_fld ?_)
  | (with_reducible refine v_sfld ?_)
  | (with_reducible refine ⟨_, (rfl : V.bl _ = V.bl _), ?_⟩)
  | (with_reducible refine ⟨_, (rfl : V.ref _ = V.ref _), ?_⟩)
  | (with_reducible refine ⟨_, (rfl : [V.int _] = [V.int _]), ?_⟩)
  | (with_reducible refine ⟨_, (rfl : V.int _ = V.int _), ?_⟩)
  | (with_reducible refine ⟨⟨_, SqL.of (by assumption)⟩, ?_⟩)
  | (with_reducible refine ⟨(by (first | omega | (rw [lenV]; omega)) : -(2 ^ 62) ≤ _), (by first | omega | (rw [lenV]; omega)), ?_⟩)
  | (with_reducible refine v_meth ?_)
  | (with_reducible refine v_make ?_)
  | (with_reducible refine w_neBB ?_)
  | (with_reducible refine w_eqBB ?_)
  | (with_reducible refine w_isiRI (by assumption) ?_)
  ))
section
variable {Z : Ctx} {vs : List V} {H : Hp} {Q : VK} {E : XK}
instance : Dat (Option Row) where
  dat := fun o => match o with
    | none => .none
    | some r => Dat.dat r
  dep := Dat.dep Row
  dp := fun {K H v a} h => by
    cases a with
    | none =>
      obtain rfl : v = .non := h
      exact .non
    | some r => exact Dat.dp h.2
  lay := fun a => by
    cases a with
    | none =>
      simp only [PyData.canLay0, PyData.depth]
      exact ⟨trivial, Nat.zero_le _⟩
    | some r => exact Dat.lay r
  eqv := fun a b => by
    cases a with
    | none =>
      cases b with
      | none => simp [PyData.eqv]
      | some r => simp [PyData.eqv, Dat.dat]
    | some r =>
      cases b with
      | none => simp [PyData.eqv, Dat.dat]
      | some s =>
        have := Dat.eqv r s
        simp only [Option.some.injEq]
        exact this
/-- a new row, or none -/
def Td (o : Option Row) (H H' : Hp) (v : V) : Prop := (o = none ∧ v = .non) ∨ ∃ r p, o = some r ∧ v = .ref p ∧ H p = none ∧ H' p = some (.lst (r.map V.int))
theorem out_one {o : Option Row} (h : ∀ v H', Same H H' → Td o H H' v → Q v H') : Out o H Q := ⟨fun e H' s => h _ H' s (.inl ⟨e, rfl⟩), fun r e p H' s n q => h _ H' s (.inr ⟨r, p, e, rfl, n, q⟩)⟩
theorem Td.rep {o : Option Row} {H' : Hp} {v : V} (h : Td o H H' v) : rep H' v o := by
  rcases h with ⟨rfl, rfl⟩ | ⟨r, p, rfl, rfl, _, q⟩
  · exact rfl
  · exact ⟨ne_rn, rep_row_of q⟩
theorem ifS_post {t : TT} {a b : TS} {nx bk ct : L2.St → Hp → Prop} {rt : VK} {σ : L2.St} (T : L2.St → Hp → Prop) (hq : ∀ σ' H', T σ' H' → nx σ' H') (h : ∀ nx' : L2.St → Hp → Prop, (∀ σ' H', T σ' H' → nx' σ' H') → tIfS t a b ⟨nx', rt, bk, ct⟩ σ H) : tIfS t a b ⟨nx, rt, bk, ct⟩ σ H := h nx hq
theorem st20 {w n : Nat} {m : Mat} (h : Rows6 w n m) (h9 : w ≤ 9) (hn : n ≤ 900) : StPre w w 20 m := ⟨h.wid, Nat.le_refl _, h9, by omega, by have := h.len; omega, .inl ⟨le20 h.sm, lb20 (by decide) h9⟩⟩
theorem nrm20 {w n : Nat} {m : Mat} (h : Rows6 w n m) (h4 : w ≤ 4) : Nrm w (stairs m w) := nrm_of h.wid h4 (le20 h.sm)
theorem Nrm.all {w : Nat} {S S' : Mat} (h : Nrm w S) (h' : Nrm w S') : ∀ r ∈ S', RedPre S r 3108 3108 := fun r hr => by
  obtain ⟨L, q⟩ := h'.hs
  exact h.red (q.wid r hr) (le_iff.mp h'.sz r hr)
theorem out_in {w : Nat} {A B : Mat} (hA : Wid w A) (hB : Wid w B) (h : Sub w A B) : outF (stairs B w) (stairs A w) = none := by
  unfold outF
  rw [List.find?_eq_none]
  intro r hr
  obtain ⟨L, q⟩ := stairs_hs hA
  have := isz_in hB (((stairs_span hA r).mp (.mem q.wid hr)).sub hB h)
  rw [this]
  simp
def sp_law_is_lattice (Z : Ctx) : Sp := fun vs H Q _ => ∃ v u, ∃ z : Int, ∃ w : Nat, ∃ g S : Mat, vs = [v, .int z, u] ∧ z = (w : Int) ∧ Lat Z H v w g S ∧ rep H u S ∧ S.length ≤ 1000 ∧ ∀ H', Same H H' → Q (.bl true) H'
abbrev r_law_is_lattice (Z : Ctx) : TS := (tRet (tAndV (tOp rEq (tMeth (Z.cls "Lattice") "width" (sp_Lattice_width Z) [] E0 (tVar 0) tNil) (tVar 1)) (tAndV (tOp (rEqD Z.K) (tMeth (Z.cls "Lattice") "rows" (sp_Lattice_rows Z) [] E0 (tVar 0) tNil) (tVar 2)) (tOp rEq (tMeth (Z.cls "Lattice") "rank" (sp_Lattice_rank Z) [] E0 (tVar 0) tNil) (tCB (rLenG Z.K) (tCons (tVar 2) tNil))))))
theorem ln_law_is_lattice : sp_law_is_lattice Z vs H Q E → vs.length = 3 := by rintro ⟨_, _, _, _, _, _, rfl, _⟩; rfl
abbrev nm_law_is_lattice : List Str := ["box", "width", "stairs"]
theorem rd_law_is_lattice (h : sp_law_is_lattice Z vs H Q E) : r_law_is_lattice Z (ends Q) (L2.start nm_law_is_lattice vs) H := by
  obtain ⟨v, u, z, w, g, S, rfl, rfl, L, hu, hz, k⟩ := h
  have hu' := hu
  obtain ⟨l, xs, rfl, hl, ha⟩ := hu'
  have hlen := ha.len
  show r_law_is_lattice Z (ends Q) [some v, some (.int (w : Int)), some (.ref l)] H
  unfold r_law_is_lattice ends
  walk_at "rd"
  refine lat_meth L (fun _ _ _ => lk_no (by decide +kernel) (by decide +kernel) (by decide +kernel) (by decide +kernel)) ?_
  walk_at "rd"
  refine ⟨v, w, g, S, rfl, L, ?_⟩
  walk_at "rd"
  refine w_ite (fun _ => ?_) (fun h => absurd rfl h)
  walk_at "rd"
  refine lat_meth L (fun _ _ _ => lk_no (by decide +kernel) (by decide +kernel) (by decide +kernel) (by decide +kernel)) ?_
  walk_at "rd"
  refine ⟨v, w, g, S, rfl, L, hz, fun p x H1 s1 n1 e1 a1 => ?_⟩
  have hl1 := s1 _ _ hl
  walk_at "rd"
  refine w_eqD (a := S) (b := S) ⟨p, x, rfl, e1, all2_mono off_same a1⟩ (Rep.mono s1 hu) ?_
  walk_at "rd"
  refine w_ite (fun _ => ?_) (fun h => absurd rfl h)
  walk_at "rd"
  refine lat_meth (L.mono s1) (fun _ _ _ => lk_no (by decide +kernel) (by decide +kernel) (by decide +kernel) (by decide +kernel)) ?_
  walk_at "rd"
  refine ⟨v, w, g, S, rfl, L.mono s1, ?_⟩
  walk_at "rd"
  rw [decide_eq_true (by rw [hlen])]
  exact k _ s1
def sp_law_index (Z : Ctx) : Sp := fun vs H Q _ => ∃ v u, ∃ w : Nat, ∃ M Y : Mat, vs = [v, u] ∧ rep H v M ∧ rep H u Y ∧ Nrm w M ∧ Nrm w Y ∧ (∀ r ∈ M, Spn w Y r) ∧ ∀ H', Same H H' → Q (.int (if M.length = Y.length then prodTo Y.length (fun i => ent (stepsOf Y M) i i) else 0)) H'
abbrev r_law_index (Z : Ctx) : TS := (tSeq (tIfS (tTest (tOp rNe (tCB (rLenG Z.K) (tCons (tVar 0) tNil)) (tCB (rLenG Z.K) (tCons (tVar 1) tNil)))) (tRet (tC (.int 0))) tNext) (tRet (tOp rDivI (tCall (sp_law_leads Z) [] E0 (tCons (tVar 0) tNil)) (tCall (sp_law_leads Z) [] E0 (tCons (tVar 1) tNil)))))
theorem ln_law_index : sp_law_index Z vs H Q E → vs.length = 2 := by rintro ⟨_, _, _, _, _, rfl, _⟩; rfl
abbrev nm_law_index : List Str := ["mine", "yours"]
theorem leads_pre {w : Nat} {S : Mat} (h : Nrm w S) : (∀ i, i < S.length → ∃ q, leadAt (S.getD i []) q) ∧ ∀ i, i < S.length → CMulG (prodTo i (ldF S)) (ldF S i) := by
  obtain ⟨L, q⟩ := h.hs
  have := h.le
  refine ⟨fun i hi => ?_, fun i hi => ?_⟩
  · obtain ⟨p, _, hp, _⟩ := q.lead hi
    exact ⟨p, hp⟩
  · refine CMulG.of (bd_of (prod_bd (b := 3108) fun j _ => h.sz j _)) (bd_of (h.sz i _)) ?_
    have : i * 3108 ≤ 4 * 3108 := Nat.mul_le_mul_right _ (by omega)
    omega
theorem rd_law_index (h : sp_law_index Z vs H Q E) : r_law_index Z (ends Q) (L2.start nm_law_index vs) H := by
  obtain ⟨v, u, w, M, Y, rfl, hv, hu, nM, nY, hin, k⟩ := h
  have hv' := hv
  have hu' := hu
  obtain ⟨l, xs, rfl, hl, ha⟩ := hv'
  obtain ⟨l', xs', rfl, hl', ha'⟩ := hu'
  have hlen := ha.len
  have hlen' := ha'.len
  obtain ⟨LM, qM⟩ := nM.hs
  obtain ⟨LY, qY⟩ := nY.hs
  have := nM.le
  have := nY.le
  have := nY.w4
  show r_law_index Z (ends Q) [some (.ref l), some (.ref l')] H
  unfold r_law_index ends
  walk_at "rd"
  refine w_ite (fun h => ?_) (fun h => ?_)
  · walk_at "rd"
    have := k H (.refl _)
    rw [if_neg (by omega)] at this
    exact this
  · have hL : M.length = Y.length := by omega
    walk_at "rd"
    refine ⟨.ref l, M, w, rfl, hv, qM.wid, by omega, by omega, (leads_pre nM).1, (leads_pre nM).2, fun H1 s1 => ?_⟩
    walk_at "rd"
    refine ⟨.ref l', Y, w, rfl, Rep.mono s1 hu, qY.wid, by omega, by omega, (leads_pre nY).1, (leads_pre nY).2, fun H2 s2 => ?_⟩
    have hp := lds_pos qY
    refine w_I (show lds Y ≠ 0 by omega) ?_
    rw [index_ok qY qM hL hin]
    have := k H2 (s1.trans s2)
    rw [if_pos hL] at this
    exact this
def sp_law_shows_values (Z : Ctx) : Sp := fun vs H Q _ => ∃ v u x y, ∃ w a b c n : Nat, ∃ t : Row, ∃ A W : Mat, vs = [v, u, .int (w : Int), x, y] ∧ rep H v t ∧ rep H u A ∧ rep H x W ∧ rep H y (W.map fun c => dot c t) ∧ t.length = w ∧ w ≤ 1000 ∧ Wid w W ∧ W.length ≤ 1000 ∧ StPre w w c A ∧ RedPre (stairs A w) t a b ∧ isz (red (stairs A w) t) = true ∧ (∀ i j, CMulG (ent W i j) (at0 t j)) ∧ ∀ H', Same H H' → Q (.bl true) H'
abbrev r_law_shows_values (Z : Ctx) : TS := (tSeq (tIfS (tOr (tNot (tB (tCall (sp_law_is_row Z) [] E0 (tCons (tVar 0) (tCons (tVar 2) tNil))))) (tNot (tB (tCall (sp_law_held Z) [] E0 (tCons (tCall (sp_law_stairs Z) [] E0 (tCons (tVar 1) (tCons (tVar 2) tNil))) (tCons (tVar 0) tNil)))))) (tRet (tC (.bl false))) tNext) (tRet (tOp (rEqD Z.K) (tLc (iList Z.K (tVar 3)) (gName 5) tYes (tCall (sp_law_dot Z) [] E0 (tCons (tVar 5) (tCons (tVar 0) tNil))) [5]) (tVar 4))))
theorem ln_law_shows_values : sp_law_shows_values Z vs H Q E → vs.length = 5 := by rintro ⟨_, _, _, _, _, _, _, _, _, _, _, _, rfl, _⟩; rfl
abbrev nm_law_shows_values : List Str := ["told", "rows", "width", "weights_list", "values", "weights"]
theorem rd_law_shows_values (h : sp_law_shows_values Z vs H Q E) : r_law_shows_values Z (ends Q) (L2.start nm_law_shows_values vs) H := by
  obtain ⟨v, u, x, y, w, a, b, c, n, t, A, W, rfl, hv, hu, hx, hy, ht, hw, hW, hWl, st, rp, hz, cm, k⟩ := h
  have hx' := hx
  obtain ⟨l, xs, rfl, hl, ha⟩ := hx'
  have hlen := ha.len
  show r_law_shows_values Z (ends Q) [some v, some u, some (.int (w : Int)), some (.ref l), some y, none] H
  unfold r_law_shows_values ends
  walk_at "rd"
  refine ⟨v, w, t, rfl, hv, ht, ?_⟩
  walk_at "rd"
  refine ⟨u, w, w, c, A, rfl, hu, st, fun p1 x1 H1 s1 n1 e1 a1 => ?_⟩
  walk_at "rd"
  refine ⟨.ref p1, v, stairs A w, t, a, b, rfl, ⟨p1, x1, rfl, e1, all2_mono off_same a1⟩, Rep.mono s1 hv, rp, fun H2 s2 => ?_⟩
  rw [hz]
  have hl2 := s2 _ _ (s1 _ _ hl)
  have s12 := s1.trans s2
  walk_at "rd"
  refine lcLrT (xs := xs) (fun R h => by walk_at "rd"; exact h) (fun i => dot (W.getD i []) t) (SqL.of hl2) (by omega) (fun _ => rfl) (fun i x H3 hi s3 R k3 => ?_) ?_
  · have hi2 := (List.getElem?_eq_some_iff.mp hi).1
    obtain ⟨q, g1, g2⟩ := mat_at ha (i := i) (by omega)
    rw [g1] at hi
    cases hi
    have g3 := s3 _ _ (s12 _ _ g2)
    show tCall _ _ _ _ [some v, some u, some (.int (w : Int)), some (.ref l), some y, some (.ref q)] H3 R
    walk_at "rd"
    exact ⟨.ref q, v, W.getD i [], t, rfl, rep_row_of g3, Rep.mono (s12.trans s3) hv, by rw [ht]; exact hW.get (by omega), by omega, fun j => cm i j, fun H4 s4 => k3 _ s4⟩
  · have e : (List.range xs.length).map (fun i => dot (W.getD i []) t) = W.map fun c => dot c t := by
      rw [hlen]
      conv => rhs; rw [← list_eq_range W, List.map_map]
      rfl
    rw [e]
    intro q3 H3 s3 n3 e3
    walk_at "rd"
    refine w_eqD (α := Row) (rep_row_of e3) (Rep.mono (s12.trans s3) hy) ?_
    rw [decide_eq_true rfl]
    exact k _ (s12.trans s3)
end
end G
end
section
set_option Elab.async false
set_option linter.all false
set_option maxRecDepth 100000
namespace G
open PySem L2 PyProof.Rows
local macro_rules | `(tactic| walk_at "rd") => `(tactic| repeat (first
  | (with_reducible refine v_seq ?_)
  | (with_reducible refine v_asg ?_)
  | (with_reducible refine w_cons ?_)
  | (with_reducible refine w_nil ?_)
  | (with_reducible refine w_op ?_)
  | (with_reducible refine w_c ?_)
  | (with_reducible refine w_I0 ?_)
  | (with_reducible refine w_cb ?_)
  | (with_reducible refine w_call ?_)
  | (with_reducible refine v_ret ?_)
  | (with_reducible refine v_next ?_)
  | (with_reducible refine w_ixR (by assumption) (by assumption) ?_)
  | (with_reducible refine w_ix (by assumption) (by assumption) ?_)
  | (with_reducible refine w_test ?_)
  | (with_reducible refine w_tB ?_)
  | (with_reducible refine w_and ?_)
  | (with_reducible refine w_or ?_)
  | (with_reducible refine w_not ?_)
  | (with_reducible refine w_ifE ?_)
  | (with_reducible refine v_ifS ?_)
  | (with_reducible refine w_tt ?_)
  | (with_reducible refine w_ff ?_)
  | (with_reducible refine w_eqI ?_)
  | (with_reducible refine w_neI ?_)
  | (with_reducible refine w_U ?_)
  | (with_reducible refine w_un ?_)
  | (with_reducible refine w_len (by assumption) ?_)
  | (with_reducible refine w_abs ?_)
  | (with_reducible refine w_int ?_)
  | (with_reducible refine w_isN0 ?_)
  | (with_reducible refine w_isN1 (by assumption) ?_)
  | (with_reducible refine w_isN1 ne_in ?_)
  | (with_reducible refine w_isN1 ne_rn ?_)
  | (with_reducible refine w_notN0 ?_)
  | (with_reducible refine w_notN1 ne_in ?_)
  | (with_reducible refine w_notN1 ne_rn ?_)
  | (with_reducible refine v_lst ?_)
  | (with_reducible refine v_tup ?_)
  | (with_reducible refine w_notN1 (by assumption) ?_)
  | (with_reducible refine v_drop ?_)
  | (with_reducible refine w_bm ?_)
  | (with_reducible refine v_for ?_)
  | (with_reducible refine v_rng1 ?_)
  | (with_reducible refine v_rng2 ?_)
  | (with_reducible refine v_list ?_)
  | (with_reducible refine w_sub ?_)
  | (with_reducible refine v_ip ?_)
  | (with_reducible refine v_augS ?_)
  | (with_reducible refine v_retN ?_)
  | (with_reducible refine w_yes ?_)
  | (with_reducible refine tv_0 ?_)
  | (with_reducible refine nv_0 ?_)
  | (with_reducible refine av_0 ?_)
  | (with_reducible refine tv_1 ?_)
  | (with_reducible refine nv_1 ?_)
  | (with_reducible refine av_1 ?_)
  | (with_reducible refine tv_2 ?_)
  | (with_reducible refine nv_2 ?_)
  | (with_reducible refine av_2 ?_)
  | (with_reducible refine tv_3 ?_)
  | (with_reducible refine nv_3 ?_)
  | (with_reducible refine av_3 ?_)
  | (with_reducible refine tv_4 ?_)
  | (with_reducible refine nv_4 ?_)
  | (with_reducible refine av_4 ?_)
  | (with_reducible refine tv_5 ?_)
  | (with_reducible refine nv_5 ?_)
  | (with_reducible refine av_5 ?_)
  | (with_reducible refine tv_6 ?_)
  | (with_reducible refine nv_6 ?_)
  | (with_reducible refine av_6 ?_)
  | (with_reducible refine tv_7 ?_)
  | (with_reducible refine nv_7 ?_)
  | (with_reducible refine av_7 ?_)
  | (with_reducible refine tv_8 ?_)
  | (with_reducible refine nv_8 ?_)
  | (with_reducible refine av_8 ?_)
  | (with_reducible refine tv_9 ?_)
  | (with_reducible refine nv_9 ?_)
  | (with_reducible refine av_9 ?_)
  | (with_reducible refine tv_10 ?_)
  | (with_reducible refine nv_10 ?_)
  | (with_reducible refine av_10 ?_)
  | (with_reducible refine tv_11 ?_)
  | (with_reducible refine nv_11 ?_)
  | (with_reducible refine av_11 ?_)
  | (with_reducible refine tv_12 ?_)
  | (with_reducible refine nv_12 ?_)
  | (with_reducible refine av_12 ?_)
  | (with_reducible refine tv_13 ?_)
  | (with_reducible refine nv_13 ?_)
  | (with_reducible refine av_13 ?_)
  | (with_reducible refine tv_14 ?_)
  | (with_reducible refine nv_14 ?_)
  | (with_reducible refine av_14 ?_)
  | (with_reducible refine tv_15 ?_)
  | (with_reducible refine nv_15 ?_)
  | (with_reducible refine av_15 ?_)
  | (with_reducible refine ⟨_, rfl, ⟨_, SqL.of (by assumption)⟩, ?_⟩)
  | (with_reducible refine ⟨_, rfl, (by omega), (by omega), ?_⟩)
  | (with_reducible refine ⟨w_tyL (by assumption), ?_⟩)
  | (with_reducible refine w_isiII ?_)
  | (with_reducible refine w_isiIB ?_)
  | (with_reducible refine w_isiBB ?_)
  | (with_reducible refine w_isiBI ?_)
  | (with_reducible refine w_isiNL ?_)
  | (with_reducible refine w_isiLL (by assumption) ?_)
  | (with_reducible refine v_sl ?_)
  | (with_reducible refine w_nff ?_)
  | (with_reducible refine w_ntt ?_)
  | (with_reducible refine v_chain ?_)
  | (with_reducible refine v_andV ?_)
  | (with_reducible refine v_orV ?_)
  | (with_reducible refine v_notV ?_)
  | (with_reducible refine v_noP ?_)
  | (with_reducible refine v_part ?_)
  | (with_reducible refine v_fld ?_)
  | (with_reducible refine v_sfld ?_)
  | (with_reducible refine ⟨_, (rfl : V.bl _ = V.bl _), ?_⟩)
  | (with_reducible refine ⟨_, (rfl : V.ref _ = V.ref _), ?_⟩)
  | (with_reducible refine ⟨_, (rfl : [V.int _] = [V.int _]), ?_⟩)
  | (with_reducible refine ⟨_, (rfl : V.int _ = V.int _), ?_⟩)
  | (with_reducible refine ⟨⟨_, SqL.of (by assumption)⟩, ?_⟩)
  | (with_reducible refine ⟨(by (first | omega | (rw [lenV]; omega)) : -(2 ^ 62) ≤ _), (by first | omega | (rw [lenV]; omega)), ?_⟩)
  | (with_reducible refine v_meth ?_)
  | (with_reducible refine v_make ?_)
  | (with_reducible refine w_neBB ?_)
  | (with_reducible refine w_eqBB ?_)
  | (with_reducible refine w_isiRI (by assumption) ?_)
  ))
section
variable {Z : Ctx} {vs : List V} {H : Hp} {Q : VK} {E : XK}
def sp_law_two_alike (Z : Ctx) : Sp := fun vs H Q _ => ∃ v u x y, ∃ w : Nat, ∃ A B : Mat, vs = [v, u, x, y, .int (w : Int)] ∧ Lat Z H v w A (stairs A w) ∧ Lat Z H u w B (stairs B w) ∧ rep H x A ∧ rep H y B ∧ Rows6 w 7 A ∧ Rows6 w 7 B ∧ w ≤ 4 ∧ ∀ H', Same H H' → Q (.bl true) H'
abbrev r_law_two_alike (Z : Ctx) : TS := (tSeq (tAsg (tCall (sp_law_stairs Z) [] E0 (tCons (tVar 2) (tCons (tVar 4) tNil))) (gName 5)) (tSeq (tAsg (tCall (sp_law_stairs Z) [] E0 (tCons (tVar 3) (tCons (tVar 4) tNil))) (gName 6)) (tSeq (tAsg (tMeth (Z.cls "Lattice") "within" (sp_Lattice_within Z) [] E0 (tVar 0) (tCons (tVar 1) tNil)) (gName 7)) (tSeq (tIfS (tOr (tTest (tOp (rNeD Z.K) (tVar 7) (tCall (sp_law_within_first Z) [] E0 (tCons (tVar 5) (tCons (tVar 6) tNil))))) (tTest (tOp rNe (tMeth (Z.cls "Lattice") "same" (sp_Lattice_same Z) [] E0 (tVar 0) (tCons (tVar 1) tNil)) (tOp (rEqD Z.K) (tVar 5) (tVar 6))))) (tRet (tC (.bl false))) tNext) (tSeq (tIfS (tTest (tOp rNotNo (tVar 7) (tC .non))) (tDrop (tBM Z.K "list" rAppend (tVar 7) (tCons (tC (.int 9)) tNil))) tNext) (tSeq (tAsg (tMeth (Z.cls "Lattice") "joined" (sp_Lattice_joined Z) [] E0 (tVar 0) (tCons (tVar 1) tNil)) (gName 8)) (tSeq (tIfS (tOr (tNot (tB (tCall (sp_law_is_lattice Z) [] E0 (tCons (tVar 8) (tCons (tVar 4) (tCons (tCall (sp_law_stairs Z) [] E0 (tCons (tOp rCat (tVar 2) (tVar 3)) (tCons (tVar 4) tNil))) tNil)))))) (tTest (tOp (rNeD Z.K) (tMeth (Z.cls "Lattice") "given" (sp_Lattice_given Z) [] E0 (tVar 8) tNil) (tOp rCat (tVar 2) (tVar 3))))) (tRet (tC (.bl false))) tNext) (tRet (tAndV (tOp (rEqD Z.K) (tMeth (Z.cls "Lattice") "rows" (sp_Lattice_rows Z) [] E0 (tVar 0) tNil) (tVar 5)) (tOp (rEqD Z.K) (tMeth (Z.cls "Lattice") "rows" (sp_Lattice_rows Z) [] E0 (tVar 1) tNil) (tVar 6)))))))))))
theorem ln_law_two_alike : sp_law_two_alike Z vs H Q E → vs.length = 5 := by rintro ⟨_, _, _, _, _, _, _, rfl, _⟩; rfl
abbrev nm_law_two_alike : List Str := ["one", "other", "first", "second", "width", "mine", "yours", "told", "both"]
theorem rd_law_two_alike (h : sp_law_two_alike Z vs H Q E) : r_law_two_alike Z (ends Q) (L2.start nm_law_two_alike vs) H := by
  obtain ⟨v, u, x, y, w, A, B, rfl, L, L', hx, hy, hA, hB, h4, k⟩ := h
  have lA := hA.len
  have lB := hB.len
  have nA := nrm20 hA h4
  have nB := nrm20 hB h4
  have := nA.le
  have := nB.le
  have hx' := hx
  have hy' := hy
  obtain ⟨lx, xs, rfl, hlx, hax⟩ := hx'
  obtain ⟨ly, ys, rfl, hly, hay⟩ := hy'
  have lxs := hax.len
  have lys := hay.len
  show r_law_two_alike Z (ends Q) [some v, some u, some (.ref lx), some (.ref ly), some (.int (w : Int)), none, none, none, none] H
  unfold r_law_two_alike ends
  walk_at "rd"
  refine ⟨.ref lx, w, w, 20, A, rfl, hx, st20 hA (by omega) (by omega), fun p1 x1 H1 s1 n1 e1 a1 => ?_⟩
  walk_at "rd"
  refine ⟨.ref ly, w, w, 20, B, rfl, Rep.mono s1 hy, st20 hB (by omega) (by omega), fun p2 x2 H2 s2 n2 e2 a2 => ?_⟩
  have s12 := s1.trans s2
  have r1 : rep H2 (.ref p1) (stairs A w) := ⟨p1, x1, rfl, s2 _ _ e1, all2_mono (off_same.trans s2) a1⟩
  have r2 : rep H2 (.ref p2) (stairs B w) := ⟨p2, x2, rfl, e2, all2_mono off_same a2⟩
  walk_at "rd"
  refine lat_meth (L.mono s12) (fun _ _ _ => lk_no (by decide +kernel) (by decide +kernel) (by decide +kernel) (by decide +kernel)) ?_
  walk_at "rd"
  refine ⟨v, u, w, 3108, 3108, A, _, B, _, rfl, L.mono s12, L'.mono s12, nB.all nA, out_one fun tv H3 s3 td => ?_⟩
  walk_at "rd"
  have wf : ∀ o, outF (stairs B w) (stairs A w) = o → ∀ (Q' : VK) (E' : XK), (∀ x' H', Same H3 H' → rep H' x' o → Q' x' H') → sp_law_within_first Z [.ref p1, .ref p2] H3 Q' E' := fun o ho Q' E' k' =>
    ⟨.ref p1, .ref p2, 3108, 3108, stairs A w, stairs B w, rfl, Rep.mono s3 r1, Rep.mono s3 r2, nB.all nA, fun e H' s' => k' _ H' s' (by rw [ho] at e; subst e; exact rfl), fun r e x' H' s' hr hn => k' _ H' s' (by rw [ho] at e; subst e; exact ⟨hn, hr⟩)⟩
  refine wf _ rfl _ _ fun xv H4 s4 rv => ?_
  walk_at "rd"
  have rt4 := Rep.mono s4 td.rep
  refine w_neD (a := outF (stairs B w) (stairs A w)) (b := outF (stairs B w) (stairs A w)) rt4 rv ?_
  walk_at "rd"
  refine w_ite (fun h => absurd rfl h) (fun _ => ?_)
  have s24 := s3.trans s4
  have s14 := s12.trans s24
  walk_at "rd"
  refine lat_meth (L.mono s14) (fun _ _ _ => lk_no (by decide +kernel) (by decide +kernel) (by decide +kernel) (by decide +kernel)) ?_
  walk_at "rd"
  refine ⟨v, u, w, A, _, B, _, rfl, L.mono s14, L'.mono s14, ?_⟩
  walk_at "rd"
  refine w_eqD (a := stairs A w) (b := stairs B w) (Rep.mono s24 r1) (Rep.mono s24 r2) ?_
  walk_at "rd"
  refine w_ite (fun h => absurd rfl h) (fun _ => ?_)
  refine v_next (v_seq (ifS_post (fun σ' H' => σ' = [some v, some u, some (.ref lx), some (.ref ly), some (.int (w : Int)), some (.ref p1), some (.ref p2), some tv, none] ∧ Same H2 H') ?_ ?_))
  rotate_left
  · intro nx' hq
    rcases td with ⟨_, rfl⟩ | ⟨r, p, _, rfl, n3, e3⟩
    · walk_at "rd"
      exact hq _ _ ⟨rfl, s24⟩
    · have e4 := s4 _ _ e3
      walk_at "rd"
      have hr : (r.map V.int).length < 1000000 := by
        have hm := List.mem_of_find?_eq_some (by assumption)
        obtain ⟨LA, qA⟩ := nA.hs
        rw [lenV, qA.wid r hm]
        omega
      refine w_app e4 hr ?_
      exact hq _ _ ⟨rfl, same_mut s24 n3⟩
  rintro σ' H5 ⟨rfl, s25⟩
  have s15 := s12.trans s25
  have LL := L.mono s15
  have LL' := L'.mono s15
  have q1 := Rep.mono s25 r1
  have q2 := Rep.mono s25 r2
  have hlx5 := s15 _ _ hlx
  have hly5 := s15 _ _ hly
  have rAB : ∀ {H' : Hp}, Same H5 H' → All2 (rep H') (xs ++ ys) (A ++ B) := fun s => (all2_mono (s15.trans s) hax).app (all2_mono (s15.trans s) hay)
  have hAB := hA.app hB
  walk_at "rd"
  refine lat_meth LL (fun _ _ _ => lk_no (by decide +kernel) (by decide +kernel) (by decide +kernel) (by decide +kernel)) ?_
  walk_at "rd"
  refine ⟨v, u, w, 20, A, _, B, _, rfl, LL, LL', st20 hAB (by omega) (by omega), fun b H6 s6 n6 L6 => ?_⟩
  have L6 := (L6 (fun _ => False) fun _ z => z.elim).mono off_same
  have nAB := nrm20 hAB h4
  have := nAB.le
  have lAB := hAB.len
  walk_at "rd"
  refine w_cat (s6 _ _ hlx5) (s6 _ _ hly5) (by omega) fun p7 n7 => ?_
  have s7 := same_new (o := .lst (xs ++ ys)) n7
  have e7 : (upd H6 p7 (.lst (xs ++ ys))) p7 = some (.lst (xs ++ ys)) := upd_same
  generalize upd H6 p7 (.lst (xs ++ ys)) = H7 at s7 e7
  walk_at "rd"
  refine ⟨.ref p7, w, w, 20, A ++ B, rfl, ⟨p7, _, rfl, e7, rAB (s6.trans s7)⟩, st20 hAB (by omega) (by omega), fun p8 x8 H8 s8 n8 e8 a8 => ?_⟩
  walk_at "rd"
  refine ⟨.ref b, .ref p8, w, w, A ++ B, _, rfl, rfl, L6.mono (s7.trans s8), ⟨p8, x8, rfl, e8, all2_mono off_same a8⟩, by omega, fun H9 s9 => ?_⟩
  have s69 := s7.trans (s8.trans s9)
  walk_at "rd"
  refine lat_meth (L6.mono s69) (fun _ _ _ => lk_no (by decide +kernel) (by decide +kernel) (by decide +kernel) (by decide +kernel)) ?_
  walk_at "rd"
  refine ⟨.ref b, w, A ++ B, _, rfl, L6.mono s69, by show (A ++ B).length ≤ 1000; omega, fun p10 x10 H10 s10 n10 e10 a10 => ?_⟩
  have s610 := s69.trans s10
  walk_at "rd"
  refine w_cat (s610 _ _ (s6 _ _ hlx5)) (s610 _ _ (s6 _ _ hly5)) (by omega) fun p11 n11 => ?_
  have s11 := same_new (o := .lst (xs ++ ys)) n11
  have e11 : (upd H10 p11 (.lst (xs ++ ys))) p11 = some (.lst (xs ++ ys)) := upd_same
  generalize upd H10 p11 (.lst (xs ++ ys)) = H11 at s11 e11
  have s511 := s6.trans (s610.trans s11)
  refine w_neD (a := A ++ B) (b := A ++ B) ⟨p10, x10, rfl, s11 _ _ e10, all2_mono (off_same.trans s11) a10⟩ ⟨p11, _, rfl, e11, rAB s511⟩ ?_
  walk_at "rd"
  refine w_ite (fun h => absurd rfl h) (fun _ => ?_)
  walk_at "rd"
  refine lat_meth (LL.mono s511) (fun _ _ _ => lk_no (by decide +kernel) (by decide +kernel) (by decide +kernel) (by decide +kernel)) ?_
  walk_at "rd"
  refine ⟨v, w, A, stairs A w, rfl, LL.mono s511, by show (stairs A w).length ≤ 1000; omega, fun p12 x12 H12 s12' n12 e12 a12 => ?_⟩
  walk_at "rd"
  refine w_eqD (a := stairs A w) (b := stairs A w) ⟨p12, x12, rfl, e12, all2_mono off_same a12⟩ (Rep.mono (s511.trans s12') q1) ?_
  walk_at "rd"
  refine w_ite (fun _ => ?_) (fun h => absurd rfl h)
  have s512 := s511.trans s12'
  walk_at "rd"
  refine lat_meth (LL'.mono s512) (fun _ _ _ => lk_no (by decide +kernel) (by decide +kernel) (by decide +kernel) (by decide +kernel)) ?_
  walk_at "rd"
  refine ⟨u, w, B, stairs B w, rfl, LL'.mono s512, by show (stairs B w).length ≤ 1000; omega, fun p13 x13 H13 s13 n13 e13 a13 => ?_⟩
  walk_at "rd"
  refine w_eqD (a := stairs B w) (b := stairs B w) ⟨p13, x13, rfl, e13, all2_mono off_same a13⟩ (Rep.mono (s512.trans s13) q2) ?_
  rw [decide_eq_true rfl]
  exact k _ (s15.trans (s512.trans s13))
def sp_law_inner_alike (Z : Ctx) : Sp := fun vs H Q _ => ∃ v u x y, ∃ w : Nat, ∃ A B : Mat, vs = [v, u, x, y, .int (w : Int)] ∧ Lat Z H v w A (stairs A w) ∧ Lat Z H u w B (stairs B w) ∧ rep H x A ∧ rep H y B ∧ Rows6 w 7 A ∧ Rows6 w 7 B ∧ w ≤ 4 ∧ Sub w A B ∧ ∀ H', Same H H' → Q (.bl true) H'
abbrev r_law_inner_alike (Z : Ctx) : TS := (tSeq (tAsg (tMeth (Z.cls "Lattice") "classes" (sp_Lattice_classes Z) [] E0 (tVar 0) (tCons (tVar 1) tNil)) (gName 5)) (tSeq (tAsg (tCall (sp_law_index Z) [] E0 (tCons (tCall (sp_law_stairs Z) [] E0 (tCons (tVar 2) (tCons (tVar 4) tNil))) (tCons (tCall (sp_law_stairs Z) [] E0 (tCons (tVar 3) (tCons (tVar 4) tNil))) tNil))) (gName 6)) (tSeq (tIfS (tOr (tNot (tB (tCB (rIsi Z.K) (tCons (tVar 5) (tCons (tC (.ty "int")) tNil))))) (tOr (tB (tCB (rIsi Z.K) (tCons (tVar 5) (tCons (tC (.ty "bool")) tNil)))) (tTest (tOp rNe (tVar 5) (tVar 6))))) (tRet (tC (.bl false))) tNext) (tRet (tAndV (tOp rIsNo (tMeth (Z.cls "Lattice") "within" (sp_Lattice_within Z) [] E0 (tVar 0) (tCons (tVar 1) tNil)) (tC .non)) (tOp rEq (tMeth (Z.cls "Lattice") "classes" (sp_Lattice_classes Z) [] E0 (tVar 1) (tCons (tVar 1) tNil)) (tC (.int 1))))))))
theorem ln_law_inner_alike : sp_law_inner_alike Z vs H Q E → vs.length = 5 := by rintro ⟨_, _, _, _, _, _, _, rfl, _⟩; rfl
abbrev nm_law_inner_alike : List Str := ["inner", "box", "rows", "outer", "width", "told", "due"]
theorem rd_law_inner_alike (h : sp_law_inner_alike Z vs H Q E) : r_law_inner_alike Z (ends Q) (L2.start nm_law_inner_alike vs) H := by
  obtain ⟨v, u, x, y, w, A, B, rfl, L, L', hx, hy, hA, hB, h4, sub, k⟩ := h
  have nA := nrm20 hA h4
  have nB := nrm20 hB h4
  have ho := out_in hA.wid hB.wid sub
  have hoB := out_in hB.wid hB.wid (fun r hr => Spn.mem hB.wid hr)
  obtain ⟨LA, qA⟩ := nA.hs
  obtain ⟨LB, qB⟩ := nB.hs
  have hin : ∀ r ∈ stairs A w, Spn w (stairs B w) r := fun r hr => (stairs_span hB.wid r).mpr (((stairs_span hA.wid r).mp (.mem qA.wid hr)).sub hB.wid sub)
  show r_law_inner_alike Z (ends Q) [some v, some u, some x, some y, some (.int (w : Int)), none, none] H
  unfold r_law_inner_alike ends
  walk_at "rd"
  refine lat_meth L (fun _ _ _ => lk_no (by decide +kernel) (by decide +kernel) (by decide +kernel) (by decide +kernel)) ?_
  walk_at "rd"
  refine ⟨v, u, w, A, _, B, _, rfl, L, L', nA, nB, ho, fun H1 s1 => ?_⟩
  generalize hc : (if (stairs A w).length = (stairs B w).length then prodTo (stairs B w).length (fun i => ent (stepsOf (stairs B w) (stairs A w)) i i) else 0) = cc
  walk_at "rd"
  refine ⟨x, w, w, 20, A, rfl, Rep.mono s1 hx, st20 hA (by omega) (by omega), fun p2 x2 H2 s2 n2 e2 a2 => ?_⟩
  walk_at "rd"
  refine ⟨y, w, w, 20, B, rfl, Rep.mono (s1.trans s2) hy, st20 hB (by omega) (by omega), fun p3 x3 H3 s3 n3 e3 a3 => ?_⟩
  walk_at "rd"
  refine ⟨.ref p2, .ref p3, w, stairs A w, stairs B w, rfl, ⟨p2, x2, rfl, s3 _ _ e2, all2_mono (off_same.trans s3) a2⟩, ⟨p3, x3, rfl, e3, all2_mono off_same a3⟩, nA, nB, hin, fun H4 s4 => ?_⟩
  rw [hc]
  have s14 := s1.trans (s2.trans (s3.trans s4))
  walk_at "rd"
  refine w_ite (fun h => absurd rfl h) (fun _ => ?_)
  walk_at "rd"
  refine lat_meth (L.mono s14) (fun _ _ _ => lk_no (by decide +kernel) (by decide +kernel) (by decide +kernel) (by decide +kernel)) ?_
  walk_at "rd"
  refine ⟨v, u, w, 3108, 3108, A, _, B, _, rfl, L.mono s14, L'.mono s14, nB.all nA, fun _ H5 s5 => ?_, fun r hr => by rw [ho] at hr; cases hr⟩
  walk_at "rd"
  have s15 := s14.trans s5
  refine lat_meth (L'.mono s15) (fun _ _ _ => lk_no (by decide +kernel) (by decide +kernel) (by decide +kernel) (by decide +kernel)) ?_
  walk_at "rd"
  refine ⟨u, u, w, B, _, B, _, rfl, L'.mono s15, L'.mono s15, nB, nB, hoB, fun H6 s6 => ?_⟩
  rw [if_pos rfl, self_classes qB]
  walk_at "rd"
  exact k _ (s15.trans s6)
end
end G
end
section
set_option Elab.async false
set_option linter.all false
set_option maxRecDepth 100000
namespace G
open PySem L2 PyProof.Rows
local macro_rules | `(tactic| walk_at "rd") => `(tactic| repeat (first
  | (with_reducible refine v_seq ?_)
  | (with_reducible refine v_asg ?_)
  | (with_reducible refine w_cons ?_)
  | (with_reducible refine w_nil ?_)
  | (with_reducible refine w_op ?_)
  | (with_reducible refine w_c ?_)
  | (with_reducible refine w_I0 ?_)
  | (with_reducible refine w_cb ?_)
  | (with_reducible refine w_call ?_)
  | (with_reducible refine v_ret ?_)
  | (with_reducible refine v_next ?_)
  | (with_reducible refine w_ixR (by assumption) (by assumption) ?_)
  | (with_reducible refine w_ix (by assumption) (by assumption) ?_)
  | (with_reducible refine w_test ?_)
  | (with_reducible refine w_tB ?_)
  | (with_reducible refine w_and ?_)
  | (with_reducible refine w_or ?_)
  | (with_reducible refine w_not ?_)
  | (with_reducible refine w_ifE ?_)
  | (with_reducible refine v_ifS ?_)
  | (with_reducible refine w_tt ?_)
  | (with_reducible refine w_ff ?_)
  | (with_reducible refine w_eqI ?_)
  | (with_reducible refine w_neI ?_)
  | (with_reducible refine w_U ?_)
  | (with_reducible refine w_un ?_)
  | (with_reducible refine w_len (by assumption) ?_)
  | (with_reducible refine w_abs ?_)
  | (with_reducible refine w_int ?_)
  | (with_reducible refine w_isN0 ?_)
  | (with_reducible refine w_isN1 (by assumption) ?_)
  | (with_reducible refine w_isN1 ne_in ?_)
  | (with_reducible refine w_isN1 ne_rn ?_)
  | (with_reducible refine w_notN0 ?_)
  | (with_reducible refine w_notN1 ne_in ?_)
  | (with_reducible refine w_notN1 ne_rn ?_)
  | (with_reducible refine v_lst ?_)
  | (with_reducible refine v_tup ?_)
  | (with_reducible refine w_notN1 (by assumption) ?_)
  | (with_reducible refine v_drop ?_)
  | (with_reducible refine w_bm ?_)
  | (with_reducible refine v_for ?_)
  | (with_reducible refine v_rng1 ?_)
  | (with_reducible refine v_rng2 ?_)
  | (with_reducible refine v_list ?_)
  | (with_reducible refine w_sub ?_)
  | (with_reducible refine v_ip ?_)
  | (with_reducible refine v_augS ?_)
  | (with_reducible refine v_retN ?_)
  | (with_reducible refine w_yes ?_)
  | (with_reducible refine tv_0 ?_)
  | (with_reducible refine nv_0 ?_)
  | (with_reducible refine av_0 ?_)
  | (with_reducible refine tv_1 ?_)
  | (with_reducible refine nv_1 ?_)
  | (with_reducible refine av_1 ?_)
  | (with_reducible refine tv_2 ?_)
  | (with_reducible refine nv_2 ?_)
  | (with_reducible refine av_2 ?_)
  | (with_reducible refine tv_3 ?_)
  | (with_reducible refine nv_3 ?_)
  | (with_reducible refine av_3 ?_)
  | (with_reducible refine tv_4 ?_)
  | (with_reducible refine nv_4 ?_)
  | (with_reducible refine av_4 ?_)
  | (with_reducible refine tv_5 ?_)
  | (with_reducible refine nv_5 ?_)
  | (with_reducible refine av_5 ?_)
  | (with_reducible refine tv_6 ?_)
  | (with_reducible refine nv_6 ?_)
  | (with_reducible refine av_6 ?_)
  | (with_reducible refine tv_7 ?_)
  | (with_reducible refine nv_7 ?_)
  | (with_reducible refine av_7 ?_)
  | (with_reducible refine tv_8 ?_)
  | (with_reducible refine nv_8 ?_)
  | (with_reducible refine av_8 ?_)
  | (with_reducible refine tv_9 ?_)
  | (with_reducible refine nv_9 ?_)
  | (with_reducible refine av_9 ?_)
  | (with_reducible refine tv_10 ?_)
  | (with_reducible refine nv_10 ?_)
  | (with_reducible refine av_10 ?_)
  | (with_reducible refine tv_11 ?_)
  | (with_reducible refine nv_11 ?_)
  | (with_reducible refine av_11 ?_)
  | (with_reducible refine tv_12 ?_)
  | (with_reducible refine nv_12 ?_)
  | (with_reducible refine av_12 ?_)
  | (with_reducible refine tv_13 ?_)
  | (with_reducible refine nv_13 ?_)
  | (with_reducible refine av_13 ?_)
  | (with_reducible refine tv_14 ?_)
  | (with_reducible refine nv_14 ?_)
  | (with_reducible refine av_14 ?_)
  | (with_reducible refine tv_15 ?_)
  | (with_reducible refine nv_15 ?_)
  | (with_reducible refine av_15 ?_)
  | (with_reducible refine tv_16 ?_)
  | (with_reducible refine nv_16 ?_)
  | (with_reducible refine av_16 ?_)
  | (with_reducible refine tv_17 ?_)
  | (with_reducible refine nv_17 ?_)
  | (with_reducible refine av_17 ?_)
  | (with_reducible refine tv_18 ?_)
  | (with_reducible refine nv_18 ?_)
  | (with_reducible refine av_18 ?_)
  | (with_reducible refine tv_19 ?_)
  | (with_reducible refine nv_19 ?_)
  | (with_reducible refine av_19 ?_)
  | (with_reducible refine tv_20 ?_)
  | (with_reducible refine nv_20 ?_)
  | (with_reducible refine av_20 ?_)
  | (with_reducible refine tv_21 ?_)
  | (with_reducible refine nv_21 ?_)
  | (with_reducible refine av_21 ?_)
  | (with_reducible refine tv_22 ?_)
  | (with_reducible refine nv_22 ?_)
  | (with_reducible refine av_22 ?_)
  | (with_reducible refine tv_23 ?_)
  | (with_reducible refine nv_23 ?_)
  | (with_reducible refine av_23 ?_)
  | (with_reducible refine tv_24 ?_)
  | (with_reducible refine nv_24 ?_)
  | (with_reducible refine av_24 ?_)
  | (with_reducible refine tv_25 ?_)
  | (with_reducible refine nv_25 ?_)
  | (with_reducible refine av_25 ?_)
  | (with_reducible refine ⟨_, rfl, ⟨_, SqL.of (by assumption)⟩, ?_⟩)
  | (with_reducible refine ⟨_, rfl, (by omega), (by omega), ?_⟩)
  | (with_reducible refine ⟨w_tyL (by assumption), ?_⟩)
  | (with_reducible refine w_isiII ?_)
  | (with_reducible refine w_isiIB ?_)
  | (with_reducible refine w_isiBB ?_)
  | (with_reducible refine w_isiBI ?_)
  | (with_reducible refine w_isiNL ?_)
  | (with_reducible refine w_isiLL (by assumption) ?_)
  | (with_reducible refine v_sl ?_)
  | (with_reducible refine w_nff ?_)
  | (with_reducible refine w_ntt ?_)
  | (with_reducible refine v_chain ?_)
  | (with_reducible refine v_andV ?_)
  | (with_reducible refine v_orV ?_)
  | (with_reducible refine v_notV ?_)
  | (with_reducible refine v_noP ?_)
  | (with_reducible refine v_part ?_)
  | (with_reducible refine v_fld ?_)
  | (with_reducible refine v_sfld ?_)
  | (with_reducible refine ⟨_, (rfl : V.bl _ = V.bl _), ?_⟩)
  | (with_reducible refine ⟨_, (rfl : V.ref _ = V.ref _), ?_⟩)
  | (with_reducible refine ⟨_, (rfl : [V.int _] = [V.int _]), ?_⟩)
  | (with_reducible refine ⟨_, (rfl : V.int _ = V.int _), ?_⟩)
  | (with_reducible refine ⟨⟨_, SqL.of (by assumption)⟩, ?_⟩)
  | (with_reducible refine ⟨(by (first | omega | (rw [lenV]; omega)) : -(2 ^ 62) ≤ _), (by first | omega | (rw [lenV]; omega)), ?_⟩)
  | (with_reducible refine v_meth ?_)
  | (with_reducible refine v_make ?_)
  | (with_reducible refine w_neBB ?_)
  | (with_reducible refine w_eqBB ?_)
  | (with_reducible refine w_isiRI (by assumption) ?_)
  ))
section
variable {Z : Ctx} {vs : List V} {H : Hp} {Q : VK} {E : XK}
theorem lcRG {wi : TI} {te : TE} {vs : List Nat} {j : Nat} {σ : L2.St} {G : Nat → Hp → Prop} (hi : ∀ R : It → Hp → Prop, (∀ n H1, G n H1 → R (Itr 0 n) H1) → wi σ H R) (h : ∀ n H1, G n H1 → tLc (fun _ H' R => R (Itr 0 n) H') (gName j) tYes te vs σ H1 Q) : tLc wi (gName j) tYes te vs σ H Q := v_lc (hi _ fun n H1 g => h n H1 g)
theorem sm_at {r : Row} (h : ∀ x ∈ r, Sm x) (i : Nat) : Sm (at0 r i) := by
  by_cases hi : i < r.length
  · exact h _ (List.mem_of_getElem? (at0_get hi))
  · rw [at0_out (by omega)]; unfold Sm; omega
theorem pick_r6 {w n : Nat} {m : Mat} {P : Row} (h : Rows6 w n m) : Rows6 P.length n (m.map (pick P)) := by
  refine ⟨fun r hr => ?_, by rw [List.length_map]; exact h.len, fun r hr x hx => ?_⟩
  · obtain ⟨s, _, rfl⟩ := List.mem_map.mp hr
    simp [pick]
  · obtain ⟨s, hs, rfl⟩ := List.mem_map.mp hr
    obtain ⟨z, _, rfl⟩ := List.mem_map.mp hx
    exact sm_at (h.sm s hs) _
theorem st_len {w b : Nat} {m : Mat} (hw : Wid w m) (h : Le (2 ^ b) m) : (stairs m w).length ≤ w := (stF_inv hw h w).2.2.2.2.2.1
def sp_law_places_alike (Z : Ctx) : Sp := fun vs H Q _ => ∃ p v u, ∃ w : Nat, ∃ A : Mat, vs = [.ref p, v, u, .int (w : Int)] ∧ PurseAt H p ∧ Lat Z (off H fun a => a = p) v w A (stairs A w) ∧ rep (off H fun a => a = p) u A ∧ Rows6 w 7 A ∧ 1 ≤ w ∧ w ≤ 4 ∧ ∀ H', Chg p H H' → PurseAt H' p → Q (.bl true) H'
abbrev r_law_places_alike (Z : Ctx) : TS := (tSeq (tAsg (tLc (iRng1 (tCons (tCall (sp_law_draw Z) [] E0 (tCons (tVar 0) (tCons (tOp rAddI (tVar 3) (tC (.int 2))) tNil))) tNil)) (gName 5) tYes (tCall (sp_law_draw Z) [] E0 (tCons (tVar 0) (tCons (tVar 3) tNil))) [5]) (gName 4)) (tSeq (tAsg (tLc (iList Z.K (tVar 2)) (gName 8) tYes (tLc (iList Z.K (tVar 4)) (gName 7) tYes (tOp (rIxG Z.K) (tVar 8) (tVar 7)) [7]) [8]) (gName 6)) (tSeq (tAsg (tMeth (Z.cls "Lattice") "at_places" (sp_Lattice_at_places Z) [] E0 (tVar 1) (tCons (tCB (rLstG Z.K) (tCons (tVar 4) tNil)) tNil)) (gName 9)) (tRet (tAndV (tCall (sp_law_is_lattice Z) [] E0 (tCons (tVar 9) (tCons (tCB (rLenG Z.K) (tCons (tVar 4) tNil)) (tCons (tCall (sp_law_stairs Z) [] E0 (tCons (tVar 6) (tCons (tCB (rLenG Z.K) (tCons (tVar 4) tNil)) tNil))) tNil)))) (tOp (rEqD Z.K) (tMeth (Z.cls "Lattice") "given" (sp_Lattice_given Z) [] E0 (tVar 9) tNil) (tVar 6)))))))
theorem ln_law_places_alike : sp_law_places_alike Z vs H Q E → vs.length = 4 := by rintro ⟨_, _, _, _, _, rfl, _⟩; rfl
abbrev nm_law_places_alike : List Str := ["purse", "box", "rows", "width", "places", "turn", "cut", "place", "row", "made"]
theorem rd_law_places_alike (h : sp_law_places_alike Z vs H Q E) : r_law_places_alike Z (ends Q) (L2.start nm_law_places_alike vs) H := by
  obtain ⟨p, v, u, w, A, rfl, hp, L, hu, hA, hw0, h4, k⟩ := h
  have lA := hA.len
  have hu' := hu
  obtain ⟨l, xs, rfl, hl, ha⟩ := hu'
  have hlen := ha.len
  show r_law_places_alike Z (ends Q) [some (.ref p), some v, some (.ref l), some (.int (w : Int)), none, none, none, none, none, none] H
  unfold r_law_places_alike ends
  walk_at "rd"
  refine lcRG (G := fun t H1 => t < w + 2 ∧ Chg p H H1 ∧ PurseAt H1 p) (fun R h => ?_) (fun t H1 ⟨l2, c1, p1⟩ => ?_)
  · walk_at "rd"
    refine ⟨p, _, rfl, hp, by omega, fun z H1 c1 p1 l1 l2 => ?_⟩
    obtain ⟨t, rfl⟩ := Int.eq_ofNat_of_zero_le l1
    walk_at "rd"
    exact h t H1 ⟨by omega, c1, p1⟩
  refine lcRP (n := t) (p := p) (P := fun z => 0 ≤ z ∧ z < (w : Int)) (fun R h => h) p1 (by omega) (fun _ => rfl) (fun i H2 hi c2 p2 R k2 => ?_) (fun D P H2 c2 p2 n2 e2 lP sP => ?_)
  · show tCall _ _ _ _ [some (.ref p), some v, some (.ref l), some (.int (w : Int)), none, some (.int (i : Int)), none, none, none, none] H2 R
    walk_at "rd"
    exact ⟨p, _, rfl, p2, by omega, fun z H3 c3 p3 l1 l2 => k2 z H3 ⟨l1, l2⟩ c3 p3⟩
  have c12 := c1.trans c2
  have so : Same (off H fun a => a = p) H2 := (c12.off (M := fun a => a = p) rfl).trans off_same
  have L2 := L.mono so
  have hl2 := so _ _ hl
  have ha2 := all2_mono so ha
  walk_at "rd"
  refine lcLT (xs := xs) (fun R h => by walk_at "rd"; exact h) (dom H2) (fun i => pick P (A.getD i [])) (SqL.of hl2) (by omega) (fun _ h => h) (fun _ => rfl) (fun i x H3 M1 hi s3 so3 dm R k3 => ?_) ?_
  · have hi2 := (List.getElem?_eq_some_iff.mp hi).1
    obtain ⟨q, g1, g2⟩ := mat_at ha2 (i := i) (by omega)
    rw [g1] at hi
    cases hi
    have g3 := s3 _ _ g2
    have hp3 := s3 _ _ e2
    have wl := hA.wid.get (i := i) (by omega)
    show tLc _ _ _ _ _ [some (.ref p), some v, some (.ref l), some (.int (w : Int)), some (.ref D), none, none, none, some (.ref q), none] H3 R
    refine lcLrT (xs := P.map V.int) (fun R h => by walk_at "rd"; exact h) (fun j => at0 (A.getD i []) (at0 P j).toNat) (SqL.of hp3) (by rw [lenV]; omega) (fun _ => rfl) (fun j x H4 hj s4 R3 k4 => ?_) ?_
    · obtain ⟨z, hz, rfl⟩ := row_at hj
      have hz2 := sP z (List.mem_of_getElem? hz)
      obtain rfl := at0_some hz
      have g4 := s4 _ _ g3
      have g5 := at0_get (r := A.getD i []) (i := (at0 P j).toNat) (by omega)
      show tOp _ _ _ [some (.ref p), some v, some (.ref l), some (.int (w : Int)), some (.ref D), none, none, some (.int (at0 P j)), some (.ref q), none] H4 R3
      walk_at "rd"
      refine w_ixAt (at0 P j).toNat _ (by omega) g4 (show _ = some (V.int (at0 (A.getD i []) (at0 P j).toNat)) by rw [List.getElem?_map, g5]; rfl) ?_
      exact k4 _ (.refl _)
    · rw [map_at0 P fun z => at0 (A.getD i []) z.toNat]
      intro p4 H4 s4 n4 e4
      exact k3 _ _ s4 (rep_row_of (off_in (fun z => dm _ z n4) e4))
  · have e : (List.range xs.length).map (fun i => pick P (A.getD i [])) = A.map (pick P) := by
      rw [hlen]
      conv => rhs; rw [← list_eq_range A, List.map_map]
      rfl
    rw [e]
    intro p5 x5 H5 s5 n5 e5 a5
    have hC := pick_r6 (P := P) hA
    have lC := hC.len
    have stC := st20 hC (by omega) (by omega)
    have slC := st_len hC.wid (le20 hC.sm)
    have r5 : rep H5 (.ref p5) (A.map (pick P)) := ⟨p5, x5, rfl, e5, all2_mono off_same a5⟩
    have e25 := s5 _ _ e2
    walk_at "rd"
    refine lat_meth (L2.mono s5) (fun _ _ _ => lk_no (by decide +kernel) (by decide +kernel) (by decide +kernel) (by decide +kernel)) ?_
    walk_at "rd"
    refine w_lst e25 fun q6 n6 => ?_
    have s6 := same_new (o := .lst (P.map V.int)) n6
    have e6 : (upd H5 q6 (.lst (P.map V.int))) q6 = some (.lst (P.map V.int)) := upd_same
    generalize upd H5 q6 (.lst (P.map V.int)) = H6 at s6 e6
    walk_at "rd"
    refine ⟨v, .ref q6, w, 20, A, stairs A w, P, rfl, L2.mono (s5.trans s6), rep_row_of e6, sP, hA.wid, by omega, by omega, stC, fun b H7 s7 n7 L7 => ?_⟩
    have L7 := (L7 (fun _ => False) fun _ z => z.elim).mono off_same
    generalize hS : stairs (A.map (pick P)) P.length = S7 at L7 slC
    generalize A.map (pick P) = C at r5 L7 stC lC hS
    have e27 := s7 _ _ (s6 _ _ e25)
    walk_at "rd"
    rw [lenV]
    refine ⟨.ref p5, P.length, P.length, 20, C, rfl, Rep.mono (s6.trans s7) r5, stC, fun p8 x8 H8 s8 n8 e8 a8 => ?_⟩
    rw [hS] at a8
    walk_at "rd"
    refine ⟨.ref b, .ref p8, _, P.length, C, S7, rfl, rfl, L7.mono s8, ⟨p8, x8, rfl, e8, all2_mono off_same a8⟩, by omega, fun H9 s9 => ?_⟩
    walk_at "rd"
    refine lat_meth (L7.mono (s8.trans s9)) (fun _ _ _ => lk_no (by decide +kernel) (by decide +kernel) (by decide +kernel) (by decide +kernel)) ?_
    walk_at "rd"
    refine ⟨.ref b, P.length, C, S7, rfl, L7.mono (s8.trans s9), by show C.length ≤ 1000; omega, fun p10 x10 H10 s10 n10 e10 a10 => ?_⟩
    have s510 := s6.trans (s7.trans (s8.trans (s9.trans s10)))
    walk_at "rd"
    refine w_eqD (a := C) (b := C) ⟨p10, x10, rfl, e10, all2_mono off_same a10⟩ (Rep.mono s510 r5) ?_
    rw [decide_eq_true rfl]
    exact k H10 (c12.trans (.of (s5.trans s510))) (p2.same (s5.trans s510))
end
end G
end
section
set_option Elab.async false
set_option linter.all false
set_option maxRecDepth 100000
namespace G
open PySem L2 PyProof.Rows
local macro_rules | `(tactic| walk_at "rd") => `(tactic| repeat (first
  | (with_reducible refine v_seq ?_)
  | (with_reducible refine v_asg ?_)
  | (with_reducible refine w_cons ?_)
  | (with_reducible refine w_nil ?_)
  | (with_reducible refine w_op ?_)
  | (with_reducible refine w_c ?_)
  | (with_reducible refine w_I0 ?_)
  | (with_reducible refine w_cb ?_)
  | (with_reducible refine w_call ?_)
  | (with_reducible refine v_ret ?_)
  | (with_reducible refine v_next ?_)
  | (with_reducible refine w_ixR (by assumption) (by assumption) ?_)
  | (with_reducible refine w_ix (by assumption) (by assumption) ?_)
  | (with_reducible refine w_test ?_)
  | (with_reducible refine w_tB ?_)
  | (with_reducible refine w_and ?_)
  | (with_reducible refine w_or ?_)
  | (with_reducible refine w_not ?_)
  | (with_reducible refine w_ifE ?_)
  | (with_reducible refine v_ifS ?_)
  | (with_reducible refine w_tt ?_)
  | (with_reducible refine w_ff ?_)
  | (with_reducible refine w_eqI ?_)
  | (with_reducible refine w_neI ?_)
  | (with_reducible refine w_U ?_)
  | (with_reducible refine w_un ?_)
  | (with_reducible refine w_len (by assumption) ?_)
  | (with_reducible refine w_abs ?_)
  | (with_reducible refine w_int ?_)
  | (with_reducible refine w_isN0 ?_)
  | (with_reducible refine w_isN1 (by assumption) ?_)
  | (with_reducible refine w_isN1 ne_in ?_)
  | (with_reducible refine w_isN1 ne_rn ?_)
  | (with_reducible refine w_notN0 ?_)
  | (with_reducible refine w_notN1 ne_in ?_)
  | (with_reducible refine w_notN1 ne_rn ?_)
  | (with_reducible refine v_lst ?_)
  | (with_reducible refine v_tup ?_)
  | (with_reducible refine w_notN1 (by assumption) ?_)
  | (with_reducible refine v_drop ?_)
  | (with_reducible refine w_bm ?_)
  | (with_reducible refine v_for ?_)
  | (with_reducible refine v_rng1 ?_)
  | (with_reducible refine v_rng2 ?_)
  | (with_reducible refine v_list ?_)
  | (with_reducible refine w_sub ?_)
  | (with_reducible refine v_ip ?_)
  | (with_reducible refine v_augS ?_)
  | (with_reducible refine v_retN ?_)
  | (with_reducible refine w_yes ?_)
  | (with_reducible refine tv_0 ?_)
  | (with_reducible refine nv_0 ?_)
  | (with_reducible refine av_0 ?_)
  | (with_reducible refine tv_1 ?_)
  | (with_reducible refine nv_1 ?_)
  | (with_reducible refine av_1 ?_)
  | (with_reducible refine tv_2 ?_)
  | (with_reducible refine nv_2 ?_)
  | (with_reducible refine av_2 ?_)
  | (with_reducible refine tv_3 ?_)
  | (with_reducible refine nv_3 ?_)
  | (with_reducible refine av_3 ?_)
  | (with_reducible refine tv_4 ?_)
  | (with_reducible refine nv_4 ?_)
  | (with_reducible refine av_4 ?_)
  | (with_reducible refine tv_5 ?_)
  | (with_reducible refine nv_5 ?_)
  | (with_reducible refine av_5 ?_)
  | (with_reducible refine tv_6 ?_)
  | (with_reducible refine nv_6 ?_)
  | (with_reducible refine av_6 ?_)
  | (with_reducible refine tv_7 ?_)
  | (with_reducible refine nv_7 ?_)
  | (with_reducible refine av_7 ?_)
  | (with_reducible refine tv_8 ?_)
  | (with_reducible refine nv_8 ?_)
  | (with_reducible refine av_8 ?_)
  | (with_reducible refine tv_9 ?_)
  | (with_reducible refine nv_9 ?_)
  | (with_reducible refine av_9 ?_)
  | (with_reducible refine tv_10 ?_)
  | (with_reducible refine nv_10 ?_)
  | (with_reducible refine av_10 ?_)
  | (with_reducible refine tv_11 ?_)
  | (with_reducible refine nv_11 ?_)
  | (with_reducible refine av_11 ?_)
  | (with_reducible refine tv_12 ?_)
  | (with_reducible refine nv_12 ?_)
  | (with_reducible refine av_12 ?_)
  | (with_reducible refine tv_13 ?_)
  | (with_reducible refine nv_13 ?_)
  | (with_reducible refine av_13 ?_)
  | (with_reducible refine tv_14 ?_)
  | (with_reducible refine nv_14 ?_)
  | (with_reducible refine av_14 ?_)
  | (with_reducible refine tv_15 ?_)
  | (with_reducible refine nv_15 ?_)
  | (with_reducible refine av_15 ?_)
  | (with_reducible refine tv_16 ?_)
  | (with_reducible refine nv_16 ?_)
  | (with_reducible refine av_16 ?_)
  | (with_reducible refine tv_17 ?_)
  | (with_reducible refine nv_17 ?_)
  | (with_reducible refine av_17 ?_)
  | (with_reducible refine tv_18 ?_)
  | (with_reducible refine nv_18 ?_)
  | (with_reducible refine av_18 ?_)
  | (with_reducible refine tv_19 ?_)
  | (with_reducible refine nv_19 ?_)
  | (with_reducible refine av_19 ?_)
  | (with_reducible refine tv_20 ?_)
  | (with_reducible refine nv_20 ?_)
  | (with_reducible refine av_20 ?_)
  | (with_reducible refine tv_21 ?_)
  | (with_reducible refine nv_21 ?_)
  | (with_reducible refine av_21 ?_)
  | (with_reducible refine tv_22 ?_)
  | (with_reducible refine nv_22 ?_)
  | (with_reducible refine av_22 ?_)
  | (with_reducible refine tv_23 ?_)
  | (with_reducible refine nv_23 ?_)
  | (with_reducible refine av_23 ?_)
  | (with_reducible refine tv_24 ?_)
  | (with_reducible refine nv_24 ?_)
  | (with_reducible refine av_24 ?_)
  | (with_reducible refine tv_25 ?_)
  | (with_reducible refine nv_25 ?_)
  | (with_reducible refine av_25 ?_)
  | (with_reducible refine ⟨_, rfl, ⟨_, SqL.of (by assumption)⟩, ?_⟩)
  | (with_reducible refine ⟨_, rfl, (by omega), (by omega), ?_⟩)
  | (with_reducible refine ⟨w_tyL (by assumption), ?_⟩)
  | (with_reducible refine w_isiII ?_)
  | (with_reducible refine w_isiIB ?_)
  | (with_reducible refine w_isiBB ?_)
  | (with_reducible refine w_isiBI ?_)
  | (with_reducible refine w_isiNL ?_)
  | (with_reducible refine w_isiLL (by assumption) ?_)
  | (with_reducible refine v_sl ?_)
  | (with_reducible refine w_nff ?_)
  | (with_reducible refine w_ntt ?_)
  | (with_reducible refine v_chain ?_)
  | (with_reducible refine v_andV ?_)
  | (with_reducible refine v_orV ?_)
  | (with_reducible refine v_notV ?_)
  | (with_reducible refine v_noP ?_)
  | (with_reducible refine v_part ?_)
  | (with_reducible refine v_fld ?_)
  | (with_reducible refine v_sfld ?_)
  | (with_reducible refine ⟨_, (rfl : V.bl _ = V.bl _), ?_⟩)
  | (with_reducible refine ⟨_, (rfl : V.ref _ = V.ref _), ?_⟩)
  | (with_reducible refine ⟨_, (rfl : [V.int _] = [V.int _]), ?_⟩)
  | (with_reducible refine ⟨_, (rfl : V.int _ = V.int _), ?_⟩)
  | (with_reducible refine ⟨⟨_, SqL.of (by assumption)⟩, ?_⟩)
  | (with_reducible refine ⟨(by (first | omega | (rw [lenV]; omega)) : -(2 ^ 62) ≤ _), (by first | omega | (rw [lenV]; omega)), ?_⟩)
  | (with_reducible refine v_meth ?_)
  | (with_reducible refine v_make ?_)
  | (with_reducible refine w_neBB ?_)
  | (with_reducible refine w_eqBB ?_)
  | (with_reducible refine w_isiRI (by assumption) ?_)
  ))
section
variable {Z : Ctx} {vs : List V} {H : Hp} {Q : VK} {E : XK}
theorem Nrm.redA {w a : Nat} {S : Mat} {r : Row} (h : Nrm w S) (hr : r.length = w) (hb : RB (2 ^ a) r) (ha : a ≤ 100000000) : RedPre S r a 3108 := by
  obtain ⟨L, q⟩ := h.hs
  have := h.w4
  have := h.le
  refine ⟨by rw [hr]; exact q.wid, by omega, by omega, fun i hi => ?_, h.sz, hb, ?_⟩
  · obtain ⟨p, _, hp, _⟩ := q.lead hi
    exact ⟨p, hp⟩
  · have : S.length * (3108 + 1) ≤ 4 * (3108 + 1) := Nat.mul_le_mul_right _ (by omega)
    omega
theorem told_size {w : Nat} {A W : Mat} {y : Row} (h : CutPre w A W) (hy : y.length = W.length) (hb : RB (2 ^ 100) y) : RB (2 ^ 1195495) (toldOf A W w y) := by
  obtain ⟨h1, _, _, _, h5, h6, _⟩ := h.red hy hb
  have el : (y ++ zr w).length = W.length + w := by rw [List.length_append, zr_length, hy]
  have h3 := (stF_inv (shows_wid (W := W) h.wa) (shows_size h.wa h.w4 h.ws h.sz) W.length).2.2.2.2.2.1
  have n3 := h.n3
  obtain ⟨_, h8⟩ := redF_inv (w := (y ++ zr w).length) h1 rfl h5 h6 _ (Nat.le_refl _)
  rw [redF_all] at h8
  have hm : (stF (shows A W) W.length).1.length * (398464 + 1) ≤ 3 * (398464 + 1) := Nat.mul_le_mul_right _ (by omega)
  have h9 := h8.mono (b := 1195495) (by omega)
  intro j
  unfold toldOf
  by_cases hj : j < ((leftOf A W w y).drop W.length).length
  · have : (((leftOf A W w y).drop W.length).map fun x => -1 * x)[j]? = some (-1 * at0 ((leftOf A W w y).drop W.length) j) := by rw [List.getElem?_map, at0_get hj]; rfl
    rw [at0_some this, at0_drop]
    have := h9 (W.length + j)
    unfold leftOf
    rw [Int.natAbs_mul]
    simpa using this
  · rw [at0_out (by rw [List.length_map]; omega)]
    exact Nat.zero_le _
theorem Wt.ws {w : Nat} {W : Mat} (h : Wt w W) : Ws W := fun i j => by
  unfold ent
  by_cases hi : i < W.length
  · have hr := h.sm _ (getD_mem hi)
    generalize W.getD i [] = r at hr
    by_cases hj : j < r.length
    · have := hr _ (List.mem_of_getElem? (at0_get hj))
      omega
    · rw [at0_out (by omega)]; decide
  · rw [List.getD_eq_getElem?_getD, List.getElem?_eq_none (by omega), Option.getD_none, at0_out (Nat.zero_le _)]; decide
theorem cut20 {w n : Nat} {A W : Mat} (h : Rows6 w n A) (hn : n ≤ 100) (h4 : w ≤ 4) (hW : Wt w W) : CutPre w A W := ⟨h.wid, hW.wid, h4, hW.len, by have := h.len; omega, hW.ws, (le20 h.sm).mono (by decide)⟩
theorem cutN {w : Nat} {S W : Mat} (h : Nrm w S) (hW : Wt w W) : CutPre w S W := by
  obtain ⟨L, q⟩ := h.hs
  have := h.le
  exact ⟨q.wid, hW.wid, h.w4, hW.len, by omega, hW.ws, h.sz⟩
theorem rb30 {r : Row} (h : ∀ z ∈ r, -1000000000000000000000000000000 ≤ z ∧ z ≤ 1000000000000000000000000000000) : RB (2 ^ 100) r := fun j => by
  have e : (2 : Nat) ^ 100 = 1267650600228229401496703205376 := by decide
  by_cases hj : j < r.length
  · have := h _ (List.mem_of_getElem? (at0_get hj))
    omega
  · rw [at0_out (by omega)]
    exact Nat.zero_le _
theorem wt_bd {w : Nat} {c : Row} (h : ∀ x ∈ c, -3 ≤ x ∧ x ≤ 3) (i : Nat) : Bd 64 (at0 c i) := by
  have e : (2 : Nat) ^ 64 = 18446744073709551616 := by decide
  unfold Bd
  by_cases hj : i < c.length
  · have := h _ (List.mem_of_getElem? (at0_get hj))
    omega
  · rw [at0_out (by omega)]
    decide
/-- what stands in the heap, and a value and its weights -/
structure Cst (Z : Ctx) (H : Hp) (v : V) (l DW l2 : Addr) (w : Nat) (A W : Mat) : Prop where
  fL : Lat Z H v w A (stairs A w)
  fu : rep H (.ref l) A
  fW : rep H (.ref DW) W
  fh : rep H (.ref l2) W
theorem Cst.same {H' : Hp} {v : V} {l DW l2 : Addr} {w : Nat} {A W : Mat} (c : Cst Z H v l DW l2 w A W) (s : Same H H') : Cst Z H' v l DW l2 w A W := ⟨c.fL.mono s, Rep.mono s c.fu, Rep.mono s c.fW, Rep.mono s c.fh⟩
def sp_law_cut_alike (Z : Ctx) : Sp := fun vs H Q _ => ∃ p v u, ∃ w : Nat, ∃ A : Mat, vs = [.ref p, v, u, .int (w : Int)] ∧ PurseAt H p ∧ Lat Z (off H fun a => a = p) v w A (stairs A w) ∧ rep (off H fun a => a = p) u A ∧ Rows6 w 7 A ∧ 1 ≤ w ∧ w ≤ 4 ∧ ∀ H', Chg p H H' → PurseAt H' p → Q (.bl true) H'
abbrev r_law_cut_alike (Z : Ctx) : TS := (tSeq (tAsg (tCall (sp_law_weights_drawn Z) [] E0 (tCons (tVar 0) (tCons (tVar 3) tNil))) (gName 4)) (tSeq (tAsg (tLc (iList Z.K (tVar 4)) (gName 6) tYes (tCB (rLstG Z.K) (tCons (tVar 6) tNil)) [6]) (gName 5)) (tSeq (tAsg (tCall (sp_law_cut Z) [] E0 (tCons (tVar 2) (tCons (tVar 3) (tCons (tVar 4) tNil)))) (gName 7)) (tSeq (tAsg (tMeth (Z.cls "Lattice") "cut" (sp_Lattice_cut Z) [] E0 (tVar 1) (tCons (tVar 5) tNil)) (gName 8)) (tSeq (tIfS (tOr (tNot (tB (tCall (sp_law_is_lattice Z) [] E0 (tCons (tVar 8) (tCons (tVar 3) (tCons (tVar 7) tNil)))))) (tOr (tTest (tOp (rNeD Z.K) (tMeth (Z.cls "Lattice") "given" (sp_Lattice_given Z) [] E0 (tVar 8) tNil) (tVar 7))) (tTest (tOp (rNeD Z.K) (tVar 5) (tVar 4))))) (tRet (tC (.bl false))) tNext) (tSeq (tAsg (tCall (sp_law_mixed Z) [] E0 (tCons (tLc (iList Z.K (tVar 2)) (gName 10) tYes (tCall (sp_law_far_number Z) [] E0 (tCons (tVar 0) tNil)) [10]) (tCons (tVar 2) (tCons (tVar 3) tNil)))) (gName 9)) (tSeq (tAsg (tLc (iList Z.K (tVar 4)) (gName 6) tYes (tCall (sp_law_dot Z) [] E0 (tCons (tVar 6) (tCons (tVar 9) tNil))) [6]) (gName 11)) (tSeq (tAsg (tLc (iList Z.K (tVar 11)) (gName 13) tYes (tOp rAddI (tVar 13) (tCall (sp_law_draw Z) [] E0 (tCons (tVar 0) (tCons (tC (.int 3)) tNil)))) [13]) (gName 12)) (tSeq (tFor (iList Z.K (tLst (tCons (tVar 11) (tCons (tVar 12) tNil)))) (gName 14) (tIfS (tTest (tOp rLeI (tCB (rMax Z.K) (tCons (tOp rCat (tLst (tCons (tC (.int 0)) tNil)) (tLc (iList Z.K (tVar 14)) (gName 15) tYes (tCB rAbsG (tCons (tVar 15) tNil)) [15])) tNil)) (tOp rPowI (tC (.int 10)) (tC (.int 30))))) (tSeq (tAsg (tMeth (Z.cls "Lattice") "shown" (sp_Lattice_shown Z) [] E0 (tVar 1) (tCons (tVar 5) (tCons (tCB (rLstG Z.K) (tCons (tVar 14) tNil)) tNil))) (gName 16)) (tSeq (tAsg (tOp rNotNo (tCall (sp_law_shown Z) [] E0 (tCons (tVar 2) (tCons (tVar 3) (tCons (tVar 4) (tCons (tVar 14) tNil))))) (tC .non)) (gName 17)) (tSeq (tIfS (tTest (tOp rEq (tOp rIsNo (tVar 16) (tC .non)) (tVar 17))) (tRet (tC (.bl false))) tNext) (tIfS (tAnd (tB (tVar 17)) (tNot (tB (tCall (sp_law_shows_values Z) [] E0 (tCons (tVar 16) (tCons (tVar 2) (tCons (tVar 3) (tCons (tVar 4) (tCons (tVar 14) tNil))))))))) (tRet (tC (.bl false))) tNext)))) tNext)) (tSeq (tFor (iList Z.K (tOp rCat (tVar 4) (tLst (tCons (tOp rRep (tLst (tCons (tC (.int 0)) tNil)) (tVar 3)) tNil)))) (gName 6) (tIfS (tTest (tOp rNe (tMeth (Z.cls "Lattice") "common" (sp_Lattice_common Z) [] E0 (tVar 1) (tCons (tCB (rLstG Z.K) (tCons (tVar 6) tNil)) tNil)) (tCall (sp_law_common Z) [] E0 (tCons (tVar 2) (tCons (tVar 6) tNil))))) (tRet (tC (.bl false))) tNext)) (tRet (tOp (rEqD Z.K) (tVar 5) (tVar 4)))))))))))))
theorem ln_law_cut_alike : sp_law_cut_alike Z vs H Q E → vs.length = 4 := by rintro ⟨_, _, _, _, _, rfl, _⟩; rfl
abbrev nm_law_cut_alike : List Str := ["purse", "box", "rows", "width", "weights_list", "handed", "weights", "due", "made", "inside", "row", "wanted", "spoilt", "value", "values", "one", "told", "can"]
theorem rd_law_cut_alike (h : sp_law_cut_alike Z vs H Q E) : r_law_cut_alike Z (ends Q) (L2.start nm_law_cut_alike vs) H := by
  obtain ⟨p, v, u, w, A, rfl, hp, L, hu, hA, hw0, h4, k⟩ := h
  have lA := hA.len
  have hu' := hu
  obtain ⟨l, xs, rfl, hl, ha⟩ := hu'
  have hlen := ha.len
  have nA := nrm20 hA h4
  have lS := nA.le
  obtain ⟨LA, qA⟩ := nA.hs
  have sp1 := stairs_span hA.wid
  show r_law_cut_alike Z (ends Q) [some (.ref p), some v, some (.ref l), some (.int (w : Int)), none, none, none, none, none, none, none, none, none, none, none, none, none, none] H
  unfold r_law_cut_alike ends
  walk_at "rd"
  refine ⟨p, w, rfl, hp, by omega, fun DW xW W H1 c1 p1 n1 e1 a1 hW => ?_⟩
  have lW := hW.len
  have lxW := a1.len
  have pA := cut20 hA (by decide) h4 hW
  have pS := cutN nA hW
  have so1 : Same (off H fun a => a = p) (off H1 fun a => a = p) := c1.off rfl
  have LL := L.mono so1
  have uu := Rep.mono so1 hu
  have rW : rep (off H1 fun a => a = p) (.ref DW) W := ⟨DW, xW, rfl, off_in (hp.ne (H0 := H) n1) e1, all2_mono (off_less fun a z => .inl z) a1⟩
  walk_at "rd"
  refine lcCopyT (fun R h => by walk_at "rd"; exact h) (dom H1) e1 (all2_mono off_same a1) (by omega) (fun _ h => h) (fun _ => by rfl) (fun _ => by rfl) ?_
  intro l2 x2 H2 s2 n2 e2 a2
  have r2 : rep (off H2 fun a => a = p) (.ref l2) W := ⟨l2, x2, rfl, off_in (p1.ne (H0 := H1) n2) e2, all2_mono (off_less fun a z => .inl (by rw [z]; exact p1.dom)) a2⟩
  have LL := LL.mono (off_mono s2)
  have uu := Rep.mono (off_mono s2) uu
  have rW := Rep.mono (off_mono s2) rW
  have p2 := p1.same s2
  have C2 : Cst Z (off H2 fun a => a = p) v l DW l2 w A W := ⟨LL, uu, rW, r2⟩
  have C2' : Cst Z H2 v l DW l2 w A W := C2.same off_same
  walk_at "rd"
  refine ⟨.ref l, .ref DW, w, A, W, rfl, C2'.fu, C2'.fW, pA, fun p3 x3 H3 s3 n3 e3 a3 => ?_⟩
  walk_at "rd"
  refine lat_meth (C2'.fL.mono s3) (fun _ _ _ => lk_no (by decide +kernel) (by decide +kernel) (by decide +kernel) (by decide +kernel)) ?_
  walk_at "rd"
  refine ⟨v, .ref l2, w, A, stairs A w, W, rfl, C2'.fL.mono s3, Rep.mono s3 C2'.fh, pS, fun r hr x hx => by have := hW.sm r hr x hx; omega, fun b H4 s4 n4 L4 => ?_⟩
  have L4 := (L4 (fun _ => False) fun _ z => z.elim).mono off_same
  rw [cut_unique qA.wid hA.wid sp1] at L4
  have lC := (cut_st pA).2.2.2.2.1
  generalize cutM A W w = C at a3 L4 lC
  have r3 : rep H3 (.ref p3) C := ⟨p3, x3, rfl, e3, all2_mono off_same a3⟩
  walk_at "rd"
  refine ⟨.ref b, .ref p3, w, w, C, C, rfl, rfl, L4, Rep.mono s4 r3, by omega, fun H5 s5 => ?_⟩
  walk_at "rd"
  refine lat_meth (L4.mono s5) (fun _ _ _ => lk_no (by decide +kernel) (by decide +kernel) (by decide +kernel) (by decide +kernel)) ?_
  walk_at "rd"
  refine ⟨.ref b, w, C, C, rfl, L4.mono s5, by show C.length ≤ 1000; omega, fun p6 x6 H6 s6 n6 e6 a6 => ?_⟩
  walk_at "rd"
  have s36 := s4.trans (s5.trans s6)
  have s26 := s3.trans s36
  refine w_neD (a := C) (b := C) ⟨p6, x6, rfl, e6, all2_mono off_same a6⟩ (Rep.mono s36 r3) ?_
  walk_at "rd"
  refine w_ite (fun h => absurd rfl h) (fun _ => ?_)
  walk_at "rd"
  refine w_neD (a := W) (b := W) (Rep.mono s26 C2'.fh) (Rep.mono s26 C2'.fW) ?_
  walk_at "rd"
  refine w_ite (fun h => absurd rfl h) (fun _ => ?_)
  have C6 := C2.same (off_mono (M := fun a => a = p) s26)
  have C6' : Cst Z H6 v l DW l2 w A W := C6.same off_same
  have p6' := p2.same s26
  have c06 : Chg p H H6 := c1.trans (.of (s2.trans s26))
  obtain ⟨_, xs', e, hl6, ha6⟩ := C6.fu
  cases e
  have lxs' := ha6.len
  have hl6' := off_same _ _ hl6
  have nlp : l ≠ p := (off_some.mp hl6).1
  walk_at "rd"
  refine lcLP (p := p) (P := Fa) (xs := xs') (fun R h => by walk_at "rd"; exact h) p6' hl6' nlp (by omega) (fun _ => rfl) (fun i x H7 hi c7 p7 R k7 => ?_) (fun qa am H7 c7 p7 n7 e7 l7 f7 => ?_)
  · show tCall _ _ _ _ [some (.ref p), some v, some (.ref l), some (.int (w : Int)), some (.ref DW), some (.ref l2), none, some (.ref p3), some (.ref b), none, some x, none, none, none, none, none, none, none] H7 R
    walk_at "rd"
    exact ⟨p, rfl, p7, fun z H8 hz c8 p8 => k7 z H8 hz c8 p8⟩
  have C7 := C6.same (c7.off (M := fun a => a = p) rfl)
  have C7' : Cst Z H7 v l DW l2 w A W := C7.same off_same
  walk_at "rd"
  refine ⟨.ref qa, .ref l, w, am, A, rfl, rep_row_of e7, C7'.fu, hA.wid, by omega, by omega, by omega, fun i j => cm_small hA am i j, fun qi H8 s8 n8 e8 => ?_⟩
  have li : (mixM am A w).length = w := mix_length
  generalize mixM am A w = ins at e8 li
  have C8 := C7.same (off_mono (M := fun a => a = p) s8)
  have C8' : Cst Z H8 v l DW l2 w A W := C8.same off_same
  have p8 := p7.same s8
  obtain ⟨_, yW, e, hW8, aW8⟩ := C8'.fW
  cases e
  have lyW := aW8.len
  walk_at "rd"
  refine lcLrT (xs := yW) (fun R h => by walk_at "rd"; exact h) (fun i => dot (W.getD i []) ins) (SqL.of hW8) (by omega) (fun _ => rfl) (fun i x H9 hi s9 R k9 => ?_) ?_
  · have hi2 := (List.getElem?_eq_some_iff.mp hi).1
    obtain ⟨q, g1, g2⟩ := mat_at aW8 (i := i) (by omega)
    rw [g1] at hi
    cases hi
    have g3 := s9 _ _ g2
    show tCall _ _ _ _ [some (.ref p), some v, some (.ref l), some (.int (w : Int)), some (.ref DW), some (.ref l2), some (.ref q), some (.ref p3), some (.ref b), some (.ref qi), none, none, none, none, none, none, none, none] H9 R
    walk_at "rd"
    exact ⟨.ref q, .ref qi, W.getD i [], ins, rfl, rep_row_of g3, rep_row_of (s9 _ _ e8), by rw [li]; exact hW.wid.get (by omega), by omega, fun j => .l (wt_bd (w := w) (hW.sm _ (getD_mem (by omega))) j), fun H10 s10 => k9 _ s10⟩
  intro qy H9 s9 n9 e9
  have ly : ((List.range yW.length).map fun i => dot (W.getD i []) ins).length = W.length := by simp [lyW]
  generalize ((List.range yW.length).map fun i => dot (W.getD i []) ins) = y1 at e9 ly
  have C9 := C8.same (off_mono (M := fun a => a = p) s9)
  have p9 := p8.same s9
  have nyp : qy ≠ p := p8.ne (H0 := H8) n9
  walk_at "rd"
  refine lcLP (p := p) (P := fun _ => True) (xs := y1.map V.int) (fun R h => by walk_at "rd"; exact h) p9 e9 nyp (by rw [lenV]; omega) (fun _ => rfl) (fun i x H10 hi c10 p10 R k10 => ?_) (fun qz y2 H10 c10 p10 n10 e10 l10 _ => ?_)
  · obtain ⟨z, hz, rfl⟩ := row_at hi
    show tOp _ _ _ [some (.ref p), some v, some (.ref l), some (.int (w : Int)), some (.ref DW), some (.ref l2), none, some (.ref p3), some (.ref b), some (.ref qi), none, some (.ref qy), none, some (.int z), none, none, none, none] H10 R
    walk_at "rd"
    refine ⟨p, _, rfl, p10, by decide, fun z H11 c11 p11 l1 l2 => ?_⟩
    walk_at "rd"
    exact k10 _ H11 trivial c11 p11
  rw [lenV] at l10
  have C10 : Cst Z H10 v l DW l2 w A W := (C9.same (c10.off (M := fun a => a = p) rfl)).same off_same
  have e9' := c10 _ _ nyp e9
  have c0 : Chg p H H10 := c06.trans (c7.trans ((Chg.of (s8.trans s9)).trans c10))
  -- from here on nothing changes
  clear C9 C8 C8' C7 C7' C6 C6' C2 C2' hW8 aW8
  walk_at "rd"
  refine ⟨small _ (by simp), fun l11 n11 => ?_⟩
  have s11 := same_new (o := .lst [V.ref qy, .ref qz]) n11
  have e11 : (upd H10 l11 (.lst [V.ref qy, .ref qz])) l11 = some (.lst [V.ref qy, .ref qz]) := upd_same
  generalize upd H10 l11 (.lst [V.ref qy, .ref qz]) = H11 at s11 e11
  have two : ∀ (i : Nat) x, [V.ref qy, .ref qz][i]? = some x → ∃ q y, x = .ref q ∧ H11 q = some (.lst ((y : Row).map V.int)) ∧ y.length = W.length := fun i x hi => by
    have h2 := (List.getElem?_eq_some_iff.mp hi).1
    have h3 : i = 0 ∨ i = 1 := by simp at h2; omega
    rcases h3 with rfl | rfl
    · cases hi
      exact ⟨qy, y1, rfl, s11 _ _ e9', ly⟩
    · cases hi
      exact ⟨qz, y2, rfl, s11 _ _ e10, by omega⟩
  have C11 := C10.same s11
  have p11 := p10.same s11
  walk_at "rd"
  refine forL (xs := [V.ref qy, .ref qz]) (fun i σ H' => ∃ e14 e15 e16 e17, σ = [some (.ref p), some v, some (.ref l), some (.int (w : Int)), some (.ref DW), some (.ref l2), none, some (.ref p3), some (.ref b), some (.ref qi), none, some (.ref qy), some (.ref qz), none, e14, e15, e16, e17] ∧ Same H11 H') ⟨_, _, _, _, rfl, .refl _⟩ (fun i σ H' _ ⟨_, _, _, _, _, s⟩ => SqL.of (s _ _ e11)) ?_ ?_
  · rintro i x σ H12 hi ⟨e14, e15, e16, e17, rfl, s12⟩
    obtain ⟨q, y, rfl, hq, ly'⟩ := two i x hi
    have hq := s12 _ _ hq
    have C12 := C11.same s12
    show tIfS _ _ _ _ [some (.ref p), some v, some (.ref l), some (.int (w : Int)), some (.ref DW), some (.ref l2), none, some (.ref p3), some (.ref b), some (.ref qi), none, some (.ref qy), some (.ref qz), none, some (.ref q), e15, e16, e17] H12
    walk_at "rd"
    refine ⟨small _ (by simp), fun l13 n13 => ?_⟩
    have s13 := same_new (o := .lst [V.int 0]) n13
    have e13 : (upd H12 l13 (.lst [V.int 0])) l13 = some (.lst [V.int 0]) := upd_same
    generalize upd H12 l13 (.lst [V.int 0]) = H13 at s13 e13
    have hq13 := s13 _ _ hq
    walk_at "rd"
    refine lcLrT (xs := y.map V.int) (fun R h => by walk_at "rd"; exact h) (fun j => ((at0 y j).natAbs : Int)) (SqL.of hq13) (by rw [lenV]; omega) (fun _ => rfl) (fun j x H14 hj s14 R k14 => ?_) ?_
    · obtain ⟨x', hx, rfl⟩ := row_at hj
      obtain rfl := at0_some hx
      show tCB _ _ [some (.ref p), some v, some (.ref l), some (.int (w : Int)), some (.ref DW), some (.ref l2), none, some (.ref p3), some (.ref b), some (.ref qi), none, some (.ref qy), some (.ref qz), none, some (.ref q), some (.int (at0 y j)), e16, e17] H14 R
      walk_at "rd"
      exact k14 _ (.refl _)
    rw [map_at0 y fun x => (x.natAbs : Int)]
    intro q14 H14 s14 n14 e14'
    refine w_cat (s14 _ _ e13) e14' (by simp; omega) fun l15 n15 => ?_
    have s15 := same_new (o := .lst ([V.int 0] ++ (y.map fun x => (x.natAbs : Int)).map V.int)) n15
    have e15' : (upd H14 l15 (.lst ([V.int 0] ++ (y.map fun x => (x.natAbs : Int)).map V.int))) l15 = some (.lst ((0 :: y.map fun x => (x.natAbs : Int)).map V.int)) := upd_same
    generalize upd H14 l15 (.lst ([V.int 0] ++ (y.map fun x => (x.natAbs : Int)).map V.int)) = H15 at s15 e15'
    walk_at "rd"
    refine w_max (r := 0 :: y.map fun x => (x.natAbs : Int)) e15' (by simp) fun mx hm1 hm2 => ?_
    walk_at "rd"
    refine w_I (cpow _ (by decide) (by decide)) ?_
    walk_at "rd"
    rw [ten30]
    have s1215 := s13.trans (s14.trans s15)
    have s1115 := s12.trans s1215
    refine w_ite (fun hmx => ?_) (fun _ => ?_)
    · have by_ : ∀ z ∈ y, -1000000000000000000000000000000 ≤ z ∧ z ≤ 1000000000000000000000000000000 := fun z hz => by
        have := hm2 (z.natAbs : Int) (List.mem_cons_of_mem _ (List.mem_map.mpr ⟨z, hz, rfl⟩))
        omega
      have C15 := C12.same s1215
      have hq15 := s1215 _ _ hq
      walk_at "rd"
      refine lat_meth C15.fL (fun _ _ _ => lk_no (by decide +kernel) (by decide +kernel) (by decide +kernel) (by decide +kernel)) ?_
      walk_at "rd"
      refine w_lst hq15 fun q16 n16 => ?_
      have s16 := same_new (o := .lst (y.map V.int)) n16
      have e16' : (upd H15 q16 (.lst (y.map V.int))) q16 = some (.lst (y.map V.int)) := upd_same
      generalize upd H15 q16 (.lst (y.map V.int)) = H16 at s16 e16'
      have C16 := C15.same s16
      have hq16 := s16 _ _ hq15
      have hb := left_same (W := W) (y := y) qA.wid hA.wid sp1 ly'
      walk_at "rd"
      refine ⟨v, .ref l2, .ref q16, w, A, stairs A w, W, y, rfl, C16.fL, C16.fh, rep_row_of e16', pS, ly', fun r hr x hx => by have := hW.sm r hr x hx; omega, by_, fun hz q17 H17 s17 n17 e17' => ?_, fun hz H17 s17 => ?_⟩
      · have C17 := C16.same s17
        have hq17 := s17 _ _ hq16
        walk_at "rd"
        refine ⟨.ref l, .ref DW, .ref q, w, A, W, y, rfl, C17.fu, C17.fW, rep_row_of hq17, pA, ly', rb30 by_, fun _ q18 H18 s18 n18 e18' => ?_, fun hz' => (by rw [← hb, hz] at hz'; cases hz')⟩
        walk_at "rd"
        have C18 := C17.same s18
        have tsp := (sp1 _).mp (told_ok qA.wid ly' hz).1
        have tl := told_len (A := stairs A w) qA.wid ly'
        have td := told_dots (A := stairs A w) qA.wid ly' hz
        have tz := told_size pS ly' (rb30 by_)
        have e18 := s18 _ _ e17'
        have hq18 := s18 _ _ hq17
        generalize toldOf (stairs A w) W w y = tr at e18 e17' tsp tl td tz
        refine w_ite (fun h => by cases h) (fun _ => ?_)
        walk_at "rd"
        refine ⟨.ref q17, .ref l, .ref DW, .ref q, w, 1195495, 3108, 20, 0, tr, A, W, rfl, rep_row_of e18, C18.fu, C18.fW, by rw [td]; exact rep_row_of hq18, tl, by omega, hW.wid, by omega, st20 hA (by omega) (by decide), nA.redA tl tz (by decide), isz_in hA.wid tsp, fun i j => .l ?_, fun H19 s19 => ?_⟩
        · have := hW.ws i j
          have e : (2 : Nat) ^ 64 = 18446744073709551616 := by decide
          unfold Bd
          omega
        · walk_at "rd"
          exact ⟨_, _, _, _, rfl, s1115.trans (s16.trans (s17.trans (s18.trans s19)))⟩
      · have C17 := C16.same s17
        have hq17 := s17 _ _ hq16
        walk_at "rd"
        refine ⟨.ref l, .ref DW, .ref q, w, A, W, y, rfl, C17.fu, C17.fW, rep_row_of hq17, pA, ly', rb30 by_, fun hz' => (by rw [← hb, hz] at hz'; cases hz'), fun _ H18 s18 => ?_⟩
        walk_at "rd"
        refine w_ite (fun h => by cases h) (fun _ => ?_)
        walk_at "rd"
        exact ⟨_, _, _, _, rfl, s1115.trans (s16.trans (s17.trans s18))⟩
    · walk_at "rd"
      exact ⟨_, _, _, _, rfl, s1115⟩
  rintro σ H12 ⟨e14, e15, e16, e17, rfl, s12⟩
  have C12 := C11.same s12
  obtain ⟨_, yW', e, hW12, aW12⟩ := C12.fW
  cases e
  have lyW' := aW12.len
  walk_at "rd"
  refine ⟨small _ (by simp), fun l13 n13 => ?_⟩
  have s13 := same_new (o := .lst [V.int 0]) n13
  have e13 : (upd H12 l13 (.lst [V.int 0])) l13 = some (.lst [V.int 0]) := upd_same
  generalize upd H12 l13 (.lst [V.int 0]) = H13 at s13 e13
  walk_at "rd"
  refine w_rep e13 (by omega) fun l14 n14 => ?_
  have s14 := same_new (o := .lst ((List.replicate w (0 : Int)).map V.int)) n14
  have e14' : (upd H13 l14 (.lst ((List.replicate w (0 : Int)).map V.int))) l14 = some (.lst ((zr w).map V.int)) := upd_same
  generalize upd H13 l14 (.lst ((List.replicate w (0 : Int)).map V.int)) = H14 at s14 e14'
  walk_at "rd"
  refine ⟨small _ (by simp), fun l15 n15 => ?_⟩
  have s15 := same_new (o := .lst [V.ref l14]) n15
  have e15' : (upd H14 l15 (.lst [V.ref l14])) l15 = some (.lst [V.ref l14]) := upd_same
  generalize upd H14 l15 (.lst [V.ref l14]) = H15 at s15 e15'
  have s1215 := s13.trans (s14.trans s15)
  refine w_cat (s1215 _ _ hW12) e15' (by simp; omega) fun l16 n16 => ?_
  have s16 := same_new (o := .lst (yW' ++ [V.ref l14])) n16
  have e16' : (upd H15 l16 (.lst (yW' ++ [V.ref l14]))) l16 = some (.lst (yW' ++ [V.ref l14])) := upd_same
  generalize upd H15 l16 (.lst (yW' ++ [V.ref l14])) = H16 at s16 e16'
  have aa : All2 (rep H16) (yW' ++ [V.ref l14]) (W ++ [zr w]) := (all2_mono (s1215.trans s16) aW12).snoc (rep_row_of (s16 _ _ (s15 _ _ e14')))
  have laa := aa.len
  have hWz : ∀ r ∈ W ++ [zr w], r.length = w ∧ ∀ x ∈ r, -3 ≤ x ∧ x ≤ 3 := fun r hr => by
    rcases List.mem_append.mp hr with z | z
    · exact ⟨hW.wid r z, hW.sm r z⟩
    · rw [List.mem_singleton.mp z]
      exact ⟨zr_length, fun x hx => by rw [(List.mem_replicate.mp hx).2]; decide⟩
  have C16 := C12.same (s1215.trans s16)
  have s0 := s11.trans (s12.trans (s1215.trans s16))
  generalize W ++ [zr w] = WZ at aa laa hWz
  generalize yW' ++ [V.ref l14] = xZ at aa laa e16'
  walk_at "rd"
  refine forL (xs := xZ) (fun i σ H' => ∃ e6, σ = [some (.ref p), some v, some (.ref l), some (.int (w : Int)), some (.ref DW), some (.ref l2), e6, some (.ref p3), some (.ref b), some (.ref qi), none, some (.ref qy), some (.ref qz), none, e14, e15, e16, e17] ∧ Same H16 H') ⟨_, rfl, .refl _⟩ (fun i σ H' _ ⟨_, _, s⟩ => SqL.of (s _ _ e16')) ?_ ?_
  · rintro i x σ H17 hi ⟨e6, rfl, s17⟩
    have hi2 := (List.getElem?_eq_some_iff.mp hi).1
    obtain ⟨q, g1, g2⟩ := mat_at aa (i := i) (by omega)
    rw [g1] at hi
    cases hi
    obtain ⟨lr, sr⟩ := hWz _ (getD_mem (i := i) (m := WZ) (by omega))
    have g3 := s17 _ _ g2
    generalize WZ.getD i [] = c at g3 lr sr
    have C17 := C16.same s17
    show tIfS _ _ _ _ [some (.ref p), some v, some (.ref l), some (.int (w : Int)), some (.ref DW), some (.ref l2), some (.ref q), some (.ref p3), some (.ref b), some (.ref qi), none, some (.ref qy), some (.ref qz), none, e14, e15, e16, e17] H17
    walk_at "rd"
    refine lat_meth C17.fL (fun _ _ _ => lk_no (by decide +kernel) (by decide +kernel) (by decide +kernel) (by decide +kernel)) ?_
    walk_at "rd"
    refine w_lst g3 fun q18 n18 => ?_
    have s18 := same_new (o := .lst (c.map V.int)) n18
    have e18 : (upd H17 q18 (.lst (c.map V.int))) q18 = some (.lst (c.map V.int)) := upd_same
    generalize upd H17 q18 (.lst (c.map V.int)) = H18 at s18 e18
    have C18 := C17.same s18
    walk_at "rd"
    refine ⟨v, .ref q18, w, A, stairs A w, c, rfl, C18.fL, rep_row_of e18, lr, by omega, qA.wid, fun x hx => by have := sr x hx; omega, fun i j => .l (wt_bd (w := w) sr j), fun H19 s19 => ?_⟩
    rw [com_unique (u := c) qA.wid hA.wid sp1]
    walk_at "rd"
    refine ⟨.ref l, .ref q, A, c, rfl, (C18.same s19).fu, rep_row_of (s19 _ _ (s18 _ _ g3)), by rw [lr]; exact hA.wid, by omega, fun i j => .l (wt_bd (w := w) sr j), fun H20 s20 => ?_⟩
    walk_at "rd"
    refine w_ite (fun h => absurd rfl h) (fun _ => ?_)
    walk_at "rd"
    exact ⟨_, rfl, s17.trans (s18.trans (s19.trans s20))⟩
  rintro σ H17 ⟨e6, rfl, s17⟩
  have C17 := C16.same s17
  walk_at "rd"
  refine w_eqD (a := W) (b := W) C17.fh C17.fW ?_
  rw [decide_eq_true rfl]
  exact k H17 (c0.trans (.of (s0.trans s17))) (p10.same (s0.trans s17))
end
end G
end
section
set_option Elab.async false
set_option linter.all false
set_option maxRecDepth 100000
namespace G
open PySem L2 PyProof.Rows
local macro_rules | `(tactic| walk_at "rd") => `(tactic| repeat (first
  | (with_reducible refine v_seq ?_)
  | (with_reducible refine v_asg ?_)
  | (with_reducible refine w_cons ?_)
  | (with_reducible refine w_nil ?_)
  | (with_reducible refine w_op ?_)
  | (with_reducible refine w_c ?_)
  | (with_reducible refine w_I0 ?_)
  | (with_reducible refine w_cb ?_)
  | (with_reducible refine w_call ?_)
  | (with_reducible refine v_ret ?_)
  | (with_reducible refine v_next ?_)
  | (with_reducible refine w_ixR (by assumption) (by assumption) ?_)
  | (with_reducible refine w_ix (by assumption) (by assumption) ?_)
  | (with_reducible refine w_test ?_)
  | (with_reducible refine w_tB ?_)
  | (with_reducible refine w_and ?_)
  | (with_reducible refine w_or ?_)
  | (with_reducible refine w_not ?_)
  | (with_reducible refine w_ifE ?_)
  | (with_reducible refine v_ifS ?_)
  | (with_reducible refine w_tt ?_)
  | (with_reducible refine w_ff ?_)
  | (with_reducible refine w_eqI ?_)
  | (with_reducible refine w_neI ?_)
  | (with_reducible refine w_U ?_)
  | (with_reducible refine w_un ?_)
  | (with_reducible refine w_len (by assumption) ?_)
  | (with_reducible refine w_abs ?_)
  | (with_reducible refine w_int ?_)
  | (with_reducible refine w_isN0 ?_)
  | (with_reducible refine w_isN1 (by assumption) ?_)
  | (with_reducible refine w_isN1 ne_in ?_)
  | (with_reducible refine w_isN1 ne_rn ?_)
  | (with_reducible refine w_notN0 ?_)
  | (with_reducible refine w_notN1 ne_in ?_)
  | (with_reducible refine w_notN1 ne_rn ?_)
  | (with_reducible refine v_lst ?_)
  | (with_reducible refine v_tup ?_)
  | (with_reducible refine w_notN1 (by assumption) ?_)
  | (with_reducible refine v_drop ?_)
  | (with_reducible refine w_bm ?_)
  | (with_reducible refine v_for ?_)
  | (with_reducible refine v_rng1 ?_)
  | (with_reducible refine v_rng2 ?_)
  | (with_reducible refine v_list ?_)
  | (with_reducible refine w_sub ?_)
  | (with_reducible refine v_ip ?_)
  | (with_reducible refine v_augS ?_)
  | (with_reducible refine v_retN ?_)
  | (with_reducible refine w_yes ?_)
  | (with_reducible refine tv_0 ?_)
  | (with_reducible refine nv_0 ?_)
  | (with_reducible refine av_0 ?_)
  | (with_reducible refine tv_1 ?_)
  | (with_reducible refine nv_1 ?_)
  | (with_reducible refine av_1 ?_)
  | (with_reducible refine tv_2 ?_)
  | (with_reducible refine nv_2 ?_)
  | (with_reducible refine av_2 ?_)
  | (with_reducible refine tv_3 ?_)
  | (with_reducible refine nv_3 ?_)
  | (with_reducible refine av_3 ?_)
  | (with_reducible refine tv_4 ?_)
  | (with_reducible refine nv_4 ?_)
  | (with_reducible refine av_4 ?_)
  | (with_reducible refine tv_5 ?_)
  | (with_reducible refine nv_5 ?_)
  | (with_reducible refine av_5 ?_)
  | (with_reducible refine tv_6 ?_)
  | (with_reducible refine nv_6 ?_)
  | (with_reducible refine av_6 ?_)
  | (with_reducible refine tv_7 ?_)
  | (with_reducible refine nv_7 ?_)
  | (with_reducible refine av_7 ?_)
  | (with_reducible refine tv_8 ?_)
  | (with_reducible refine nv_8 ?_)
  | (with_reducible refine av_8 ?_)
  | (with_reducible refine tv_9 ?_)
  | (with_reducible refine nv_9 ?_)
  | (with_reducible refine av_9 ?_)
  | (with_reducible refine tv_10 ?_)
  | (with_reducible refine nv_10 ?_)
  | (with_reducible refine av_10 ?_)
  | (with_reducible refine tv_11 ?_)
  | (with_reducible refine nv_11 ?_)
  | (with_reducible refine av_11 ?_)
  | (with_reducible refine tv_12 ?_)
  | (with_reducible refine nv_12 ?_)
  | (with_reducible refine av_12 ?_)
  | (with_reducible refine tv_13 ?_)
  | (with_reducible refine nv_13 ?_)
  | (with_reducible refine av_13 ?_)
  | (with_reducible refine tv_14 ?_)
  | (with_reducible refine nv_14 ?_)
  | (with_reducible refine av_14 ?_)
  | (with_reducible refine tv_15 ?_)
  | (with_reducible refine nv_15 ?_)
  | (with_reducible refine av_15 ?_)
  | (with_reducible refine tv_16 ?_)
  | (with_reducible refine nv_16 ?_)
  | (with_reducible refine av_16 ?_)
  | (with_reducible refine tv_17 ?_)
  | (with_reducible refine nv_17 ?_)
  | (with_reducible refine av_17 ?_)
  | (with_reducible refine tv_18 ?_)
  | (with_reducible refine nv_18 ?_)
  | (with_reducible refine av_18 ?_)
  | (with_reducible refine tv_19 ?_)
  | (with_reducible refine nv_19 ?_)
  | (with_reducible refine av_19 ?_)
  | (with_reducible refine tv_20 ?_)
  | (with_reducible refine nv_20 ?_)
  | (with_reducible refine av_20 ?_)
  | (with_reducible refine tv_21 ?_)
  | (with_reducible refine nv_21 ?_)
  | (with_reducible refine av_21 ?_)
  | (with_reducible refine tv_22 ?_)
  | (with_reducible refine nv_22 ?_)
  | (with_reducible refine av_22 ?_)
  | (with_reducible refine tv_23 ?_)
  | (with_reducible refine nv_23 ?_)
  | (with_reducible refine av_23 ?_)
  | (with_reducible refine tv_24 ?_)
  | (with_reducible refine nv_24 ?_)
  | (with_reducible refine av_24 ?_)
  | (with_reducible refine tv_25 ?_)
  | (with_reducible refine nv_25 ?_)
  | (with_reducible refine av_25 ?_)
  | (with_reducible refine ⟨_, rfl, ⟨_, SqL.of (by assumption)⟩, ?_⟩)
  | (with_reducible refine ⟨_, rfl, (by omega), (by omega), ?_⟩)
  | (with_reducible refine ⟨w_tyL (by assumption), ?_⟩)
  | (with_reducible refine w_isiII ?_)
  | (with_reducible refine w_isiIB ?_)
  | (with_reducible refine w_isiBB ?_)
  | (with_reducible refine w_isiBI ?_)
  | (with_reducible refine w_isiNL ?_)
  | (with_reducible refine w_isiLL (by assumption) ?_)
  | (with_reducible refine v_sl ?_)
  | (with_reducible refine w_nff ?_)
  | (with_reducible refine w_ntt ?_)
  | (with_reducible refine v_chain ?_)
  | (with_reducible refine v_andV ?_)
  | (with_reducible refine v_orV ?_)
  | (with_reducible refine v_notV ?_)
  | (with_reducible refine v_noP ?_)
  | (with_reducible refine v_part ?_)
  | (with_reducible refine v_fld ?_)
  | (with_reducible refine v_sfld ?_)
  | (with_reducible refine ⟨_, (rfl : V.bl _ = V.bl _), ?_⟩)
  | (with_reducible refine ⟨_, (rfl : V.ref _ = V.ref _), ?_⟩)
  | (with_reducible refine ⟨_, (rfl : [V.int _] = [V.int _]), ?_⟩)
  | (with_reducible refine ⟨_, (rfl : V.int _ = V.int _), ?_⟩)
  | (with_reducible refine ⟨⟨_, SqL.of (by assumption)⟩, ?_⟩)
  | (with_reducible refine ⟨(by (first | omega | (rw [lenV]; omega)) : -(2 ^ 62) ≤ _), (by first | omega | (rw [lenV]; omega)), ?_⟩)
  | (with_reducible refine v_meth ?_)
  | (with_reducible refine v_make ?_)
  | (with_reducible refine w_neBB ?_)
  | (with_reducible refine w_eqBB ?_)
  | (with_reducible refine w_isiRI (by assumption) ?_)
  ))
section
variable {Z : Ctx} {vs : List V} {H H' : Hp} {Q : VK} {E : XK}
theorem dg_r6 {w : Nat} {c : Int} (h0 : 0 ≤ c) (h1 : c ≤ 12) : Rows6 w w (DG w c) := by
  refine ⟨dg_wid, by rw [dg_length]; exact Nat.le_refl _, fun r hr x hx => ?_⟩
  obtain ⟨i, _, rfl⟩ := List.mem_map.mp hr
  obtain ⟨j, _, rfl⟩ := List.mem_map.mp hx
  unfold Sm
  split <;> omega
theorem dg_nrm {w : Nat} {c : Int} (h4 : w ≤ 4) (h0 : 0 < c) (h1 : c ≤ 12) : Nrm w (DG w c) := by
  have := nrm20 (dg_r6 (w := w) (by omega) h1) h4
  rwa [dg_st h0] at this
theorem dg_in {w : Nat} {c : Int} (h0 : 0 < c) : outF (DG w 1) (DG w c) = none := by
  have := out_in (w := w) (A := DG w c) (B := DG w 1) dg_wid dg_wid fun r hr => spn_unit (dg_wid r hr)
  rwa [dg_st h0, dg_st (by decide)] at this
theorem dg_out {w : Nat} {c : Int} (hw : 1 ≤ w) (h2 : 2 ≤ c) : outF (DG w c) (DG w 1) = some (dgR w 1 0) := by
  unfold outF
  have := find_at (f := fun r => !isz (red (DG w c) r)) (S := DG w 1) (i := 0) (by rw [dg_length]; omega) (fun j hj => absurd hj (by omega)) ?_
  · rwa [dg_get (by omega)] at this
  · rw [dg_get (by omega)]
    cases e : isz (red (DG w c) (dgR w 1 0)) with
    | false => rfl
    | true =>
      have h := in_of_zero (dg_wid (w := w) (c := c)) (by simp [dgR]) e
      have d := dvd_span h 0
      have e1 : at0 (dgR w 1 0) 0 = 1 := by
        unfold dgR
        rw [at0_map_range, if_pos (by omega), if_pos rfl]
      rw [e1] at d
      have := Int.le_of_dvd (by decide) d
      omega
theorem dg_ne {w : Nat} {c : Int} (hw : 1 ≤ w) (h2 : 2 ≤ c) : ¬ DG w 1 = DG w c := fun h => by
  have h1 := dg_ent (w := w) (i := 0) (j := 0) (c := 1) (by omega)
  rw [h, dg_ent (by omega), if_pos (by omega), if_pos rfl, if_pos (by omega), if_pos rfl] at h1
  omega
theorem unit_pack {w i : Nat} {c : Int} : (unitR w i).map (fun x => c * x) = dgR w c i := by
  unfold unitR dgR
  rw [List.map_map]
  refine List.map_congr_left fun j _ => ?_
  show c * (if j = i then 1 else 0) = _
  split <;> simp
/-- a list by draws as it stands -/
theorem newPL_rep {p D : Addr} {xs : List V} {m : Mat} (hp : PurseAt H p) (n : H D = none) (e : H' D = some (.lst xs)) (a : All2 (rep (off H' (wth (fun a => a = p) D))) xs m) : rep (off H' fun a => a = p) (.ref D) m :=
  ⟨D, xs, rfl, off_in (hp.ne (H0 := H) n) e, all2_mono (off_less fun a z => .inl z) a⟩
/-- what the law has at hand -/
structure Lw1 (Z : Ctx) (H : Hp) (v1 v2 v3 vU vP u1 u2 u3 : V) (w : Nat) (A B C : Mat) (c : Int) : Prop where
  f1 : Lat Z H v1 w A (stairs A w)
  f2 : Lat Z H v2 w B (stairs B w)
  f3 : Lat Z H v3 w C (stairs C w)
  fU : Lat Z H vU w (DG w 1) (DG w 1)
  fP : Lat Z H vP w (DG w c) (DG w c)
  r1 : rep H u1 A
  r2 : rep H u2 B
  r3 : rep H u3 C
theorem Lw1.mono {v1 v2 v3 vU vP u1 u2 u3 : V} {w : Nat} {A B C : Mat} {c : Int} (h : Lw1 Z H v1 v2 v3 vU vP u1 u2 u3 w A B C c) (s : Same H H') : Lw1 Z H' v1 v2 v3 vU vP u1 u2 u3 w A B C c :=
  ⟨h.f1.mono s, h.f2.mono s, h.f3.mono s, h.fU.mono s, h.fP.mono s, Rep.mono s h.r1, Rep.mono s h.r2, Rep.mono s h.r3⟩
def sp_law (Z : Ctx) : Sp := fun vs H Q _ => ∃ p0, ∃ r : Row, vs = [.ref p0] ∧ SqL Z.K H p0 (r.map V.int) ∧ r.length ≤ 1000 ∧ ∀ H', Q (.bl true) H'
abbrev r_law (Z : Ctx) : TS := (tSeq (tAsg (tCall (sp_law_purse Z) [] E0 (tCons (tVar 0) (tCons (tC (.int 0)) tNil))) (gName 1)) (tSeq (tAsg (tOp rAddI (tC (.int 1)) (tCall (sp_law_draw Z) [] E0 (tCons (tVar 1) (tCons (tC (.int 4)) tNil)))) (gName 2)) (tSeq (tAsg (tIf (tTest (tOp rEq (tCall (sp_law_draw Z) [] E0 (tCons (tVar 1) (tCons (tC (.int 6)) tNil))) (tC (.int 0)))) (tCall (sp_law_pack_rows Z) [] E0 (tCons (tVar 1) (tCons (tVar 2) tNil))) (tCall (sp_law_rows_drawn Z) [] E0 (tCons (tVar 1) (tCons (tVar 2) (tCons (tC (.int 4)) tNil))))) (gName 3)) (tSeq (tAsg (tIf (tTest (tOp rEq (tCall (sp_law_draw Z) [] E0 (tCons (tVar 1) (tCons (tC (.int 4)) tNil))) (tC (.int 0)))) (tOp rCat (tVar 3) (tCall (sp_law_rows_drawn Z) [] E0 (tCons (tVar 1) (tCons (tVar 2) (tCons (tC (.int 2)) tNil))))) (tCall (sp_law_rows_drawn Z) [] E0 (tCons (tVar 1) (tCons (tVar 2) (tCons (tC (.int 4)) tNil))))) (gName 4)) (tSeq (tAsg (tCall (sp_law_inner_rows Z) [] E0 (tCons (tVar 1) (tCons (tVar 3) (tCons (tVar 2) tNil)))) (gName 5)) (tSeq (tAsg (tMake (Z.cls "Lattice") (sp_Lattice___init__ Z) [] E0 (tCons (tVar 2) (tCons (tLc (iList Z.K (tVar 3)) (gName 7) tYes (tCB (rLstG Z.K) (tCons (tVar 7) tNil)) [7]) tNil))) (gName 6)) (tSeq (tAsg (tMake (Z.cls "Lattice") (sp_Lattice___init__ Z) [] E0 (tCons (tVar 2) (tCons (tLc (iList Z.K (tVar 4)) (gName 7) tYes (tCB (rLstG Z.K) (tCons (tVar 7) tNil)) [7]) tNil))) (gName 8)) (tSeq (tAsg (tMake (Z.cls "Lattice") (sp_Lattice___init__ Z) [] E0 (tCons (tVar 2) (tCons (tLc (iList Z.K (tVar 5)) (gName 7) tYes (tCB (rLstG Z.K) (tCons (tVar 7) tNil)) [7]) tNil))) (gName 9)) (tSeq (tAsg (tOp rAddI (tC (.int 2)) (tCall (sp_law_draw Z) [] E0 (tCons (tVar 1) (tCons (tC (.int 11)) tNil)))) (gName 10)) (tSeq (tAsg (tMake (Z.cls "Lattice") (sp_Lattice___init__ Z) [] E0 (tCons (tVar 2) (tCons (tLc (iRng1 (tCons (tVar 2) tNil)) (gName 12) tYes (tCall (sp_law_unit Z) [] E0 (tCons (tVar 2) (tCons (tVar 12) tNil))) [12]) tNil))) (gName 11)) (tSeq (tAsg (tMake (Z.cls "Lattice") (sp_Lattice___init__ Z) [] E0 (tCons (tVar 2) (tCons (tLc (iRng1 (tCons (tVar 2) tNil)) (gName 12) tYes (tLc (iList Z.K (tCall (sp_law_unit Z) [] E0 (tCons (tVar 2) (tCons (tVar 12) tNil)))) (gName 14) tYes (tOp rMulI (tVar 10) (tVar 14)) [14]) [12]) tNil))) (gName 13)) (tSeq (tAsg (tC (.int 1)) (gName 15)) (tSeq (tFor (iRng1 (tCons (tVar 2) tNil)) (gName 12) (tAsg (tOp rMulI (tVar 15) (tVar 10)) (gName 15))) (tSeq (tFor (iRng1 (tCons (tC (.int 2)) tNil)) (gName 16) (tSeq (tIfS (tOr (tTest (tOp rNe (tMeth (Z.cls "Lattice") "classes" (sp_Lattice_classes Z) [] E0 (tVar 13) (tCons (tVar 11) tNil)) (tVar 15))) (tOr (tTest (tOp (rNeD Z.K) (tMeth (Z.cls "Lattice") "within" (sp_Lattice_within Z) [] E0 (tVar 11) (tCons (tVar 13) tNil)) (tCall (sp_law_unit Z) [] E0 (tCons (tVar 2) (tCons (tC (.int 0)) tNil))))) (tTest (tOp rNotB (tMeth (Z.cls "Lattice") "same" (sp_Lattice_same Z) [] E0 (tVar 11) (tCons (tVar 13) tNil)) (tC (.bl false)))))) (tRet (tC (.bl false))) tNext) (tSeq (tIfS (tOr (tNot (tB (tCall (sp_law_two_alike Z) [] E0 (tCons (tVar 6) (tCons (tVar 8) (tCons (tVar 3) (tCons (tVar 4) (tCons (tVar 2) tNil)))))))) (tNot (tB (tCall (sp_law_two_alike Z) [] E0 (tCons (tVar 8) (tCons (tVar 9) (tCons (tVar 4) (tCons (tVar 5) (tCons (tVar 2) tNil))))))))) (tRet (tC (.bl false))) tNext) (tSeq (tIfS (tNot (tB (tCall (sp_law_inner_alike Z) [] E0 (tCons (tVar 9) (tCons (tVar 6) (tCons (tVar 5) (tCons (tVar 3) (tCons (tVar 2) tNil)))))))) (tRet (tC (.bl false))) tNext) (tFor (iList Z.K (tLst (tCons (tTup (tCons (tVar 6) (tCons (tVar 3) tNil))) (tCons (tTup (tCons (tVar 8) (tCons (tVar 4) tNil))) tNil)))) (gTup Z.K 2 (gCons (gName 17) (gCons (gName 18) gNil))) (tIfS (tOr (tNot (tB (tCall (sp_law_cut_alike Z) [] E0 (tCons (tVar 1) (tCons (tVar 17) (tCons (tVar 18) (tCons (tVar 2) tNil))))))) (tNot (tB (tCall (sp_law_places_alike Z) [] E0 (tCons (tVar 1) (tCons (tVar 17) (tCons (tVar 18) (tCons (tVar 2) tNil)))))))) (tRet (tC (.bl false))) tNext)))))) (tRet (tC (.bl true)))))))))))))))))
theorem ln_law : sp_law Z vs H Q E → vs.length = 1 := by rintro ⟨_, _, rfl, _⟩; rfl
abbrev nm_law : List Str := ["script", "purse", "width", "first", "second", "inner", "one", "row", "other", "third", "pack", "units", "place", "packs", "value", "due", "turn", "box", "rows"]
theorem rd_law (h : sp_law Z vs H Q E) : r_law Z (ends Q) (L2.start nm_law vs) H := by
  obtain ⟨p0, r, rfl, hs, hl, k⟩ := h
  show r_law Z (ends Q) [some (.ref p0), none, none, none, none, none, none, none, none, none, none, none, none, none, none, none, none, none, none] H
  unfold r_law ends
  walk_at "rd"
  refine ⟨p0, 0, 0, r, rfl, rfl, hs, hl, fun p H1 s1 n1 pu1 => ?_⟩
  walk_at "rd"
  refine ⟨p, _, rfl, pu1, by decide, fun z H2 c2 p2 l1 l2 => ?_⟩
  obtain ⟨w, hw⟩ := Int.eq_ofNat_of_zero_le (show 0 ≤ 1 + z by omega)
  refine w_I0 ?_
  rw [hw]
  have hw0 : 1 ≤ w := by omega
  have h4 : w ≤ 4 := by omega
  refine nv_2 (v_seq (v_asg (if_post (fun x H' => ∃ D m, x = .ref D ∧ rep (off H' fun a => a = p) (.ref D) m ∧ Rows6 w 4 m ∧ PurseAt H' p) ?_ ?_)))
  rotate_left
  · intro Q' hq
    walk_at "rd"
    refine ⟨p, _, rfl, p2, by decide, fun z H3 c3 p3 l1 l2 => ?_⟩
    walk_at "rd"
    refine w_ite (fun h => ?_) (fun h => ?_)
    · walk_at "rd"
      exact ⟨p, w, rfl, p3, by omega, fun D xs m H4 c4 p4 n4 e4 a4 h6 => hq _ _ ⟨D, m, rfl, newPL_rep p3 n4 e4 a4, h6.le h4, p4⟩⟩
    · walk_at "rd"
      exact ⟨p, w, 4, 4, rfl, rfl, p3, by omega, by omega, fun D xs m H4 c4 p4 n4 e4 a4 h6 => hq _ _ ⟨D, m, rfl, newPL_rep p3 n4 e4 a4, h6, p4⟩⟩
  rintro x H3 ⟨D1, A, rfl, r1, hA, p3⟩
  refine nv_3 (v_seq (v_asg (if_post (fun x H' => ∃ D m, x = .ref D ∧ rep (off H' fun a => a = p) (.ref D) m ∧ Rows6 w 6 m ∧ Chg p H3 H' ∧ PurseAt H' p) ?_ ?_)))
  rotate_left
  · intro Q' hq
    walk_at "rd"
    refine ⟨p, _, rfl, p3, by decide, fun z H4 c4 p4 l1 l2 => ?_⟩
    walk_at "rd"
    refine w_ite (fun h => ?_) (fun h => ?_)
    · walk_at "rd"
      refine ⟨p, w, 2, 2, rfl, rfl, p4, by omega, by omega, fun D xs m H5 c5 p5 n5 e5 a5 h6 => ?_⟩
      have r1' := rep_chg (c4.trans c5) r1
      have r2' := newPL_rep p4 n5 e5 a5
      obtain ⟨_, x1, e, g1, ga⟩ := r1'
      cases e
      obtain ⟨_, x2, e, g2, gb⟩ := r2'
      cases e
      have := ga.len
      have := gb.len
      have := hA.len
      have := h6.len
      refine w_cat (off_same _ _ g1) (off_same _ _ g2) (by omega) fun q n => ?_
      have s := same_new (o := .lst (x1 ++ x2)) n
      refine hq _ _ ⟨q, A ++ m, rfl, ⟨q, x1 ++ x2, rfl, off_in (p5.ne (H0 := H5) n) upd_same, (all2_mono (off_mono s) ga).app (all2_mono (off_mono s) gb)⟩, hA.app h6, (c4.trans c5).trans (.of s), p5.same s⟩
    · walk_at "rd"
      exact ⟨p, w, 4, 4, rfl, rfl, p4, by omega, by omega, fun D xs m H5 c5 p5 n5 e5 a5 h6 => hq _ _ ⟨D, m, rfl, newPL_rep p4 n5 e5 a5, h6.le (by decide), c4.trans c5, p5⟩⟩
  rintro x H4 ⟨D2, B, rfl, r2, hB, c4, p4⟩
  have r1 := rep_chg c4 r1
  walk_at "rd"
  refine ⟨p, .ref D1, w, A, rfl, p4, r1, hA, hw0, by omega, fun D3 x3 C H5 c5 p5 n5 e5 a5 inn => ?_⟩
  have r1 := rep_chg c5 r1
  have r2 := rep_chg c5 r2
  have r3 := newPL_rep p4 n5 e5 a5
  have hC := inn.r6
  have sub := inn.sub
  have lA := hA.len
  have lB := hB.len
  have lC := hC.len
  have r1' := r1
  have r2' := r2
  have r3' := r3
  obtain ⟨_, y1, e, g1, b1⟩ := r1'
  cases e
  obtain ⟨_, y2, e, g2, b2⟩ := r2'
  cases e
  obtain ⟨_, y3, e, g3, b3⟩ := r3'
  cases e
  have ly1 := b1.len
  have ly2 := b2.len
  have ly3 := b3.len
  have g1 := off_same _ _ g1
  have g2 := off_same _ _ g2
  have g3 := off_same _ _ g3
  have b1 := all2_mono off_same b1
  have b2 := all2_mono off_same b2
  have b3 := all2_mono off_same b3
  walk_at "rd"
  refine lcCopyT (fun R h => by walk_at "rd"; exact h) (dom H5) g1 b1 (by omega) (fun _ h => h) (fun _ => by rfl) (fun _ => by rfl) ?_
  intro q6 x6 H6 s6 n6 e6 a6
  walk_at "rd"
  intro o1 d1 m1 k1 j1
  refine make_lat m1 k1 j1 rfl ⟨q6, x6, rfl, e6, all2_mono off_same a6⟩ hA.wid (by omega) (by omega) hA.sm fun H7 s7 L1 => ⟨rfl, ?_⟩
  have L1 := L1 (fun a => a = p) fun a z => by rw [z]; exact (p5.same s6).dom
  have s57 := s6.trans s7
  have b2 := all2_mono s57 b2
  have g2 := s57 _ _ g2
  walk_at "rd"
  refine lcCopyT (fun R h => by walk_at "rd"; exact h) (dom H7) g2 b2 (by omega) (fun _ h => h) (fun _ => by rfl) (fun _ => by rfl) ?_
  intro q8 x8 H8 s8 n8 e8 a8
  walk_at "rd"
  intro o2 d2 m2 k2 j2
  refine make_lat m2 k2 j2 rfl ⟨q8, x8, rfl, e8, all2_mono off_same a8⟩ hB.wid (by omega) (by omega) hB.sm fun H9 s9 L2 => ⟨rfl, ?_⟩
  have L2 := L2 (fun a => a = p) fun a z => by rw [z]; exact (p5.same (s57.trans s8)).dom
  have s79 := s8.trans s9
  have s59 := s57.trans s79
  have L1 := L1.mono (off_mono s79)
  have b3 := all2_mono s59 b3
  have g3 := s59 _ _ g3
  walk_at "rd"
  refine lcCopyT (fun R h => by walk_at "rd"; exact h) (dom H9) g3 b3 (by omega) (fun _ h => h) (fun _ => by rfl) (fun _ => by rfl) ?_
  intro q10 x10 H10 s10 n10 e10 a10
  walk_at "rd"
  intro o3 d3 m3 k3 j3
  refine make_lat m3 k3 j3 rfl ⟨q10, x10, rfl, e10, all2_mono off_same a10⟩ hC.wid (by omega) (by omega) hC.sm fun H11 s11 L3 => ⟨rfl, ?_⟩
  have L3 := L3 (fun a => a = p) fun a z => by rw [z]; exact (p5.same (s59.trans s10)).dom
  have s911 := s10.trans s11
  have s511 := s59.trans s911
  have L1 := L1.mono (off_mono s911)
  have L2 := L2.mono (off_mono s911)
  have p11 := p5.same s511
  walk_at "rd"
  refine ⟨p, _, rfl, p11, by decide, fun z H12 c12 p12 l1 l2 => ?_⟩
  have hpk1 : 2 ≤ 2 + z := by omega
  have hpk2 : 2 + z ≤ 12 := by omega
  walk_at "rd"
  generalize 2 + z = pk at hpk1 hpk2
  have bpk : Bd 64 pk := by
    have e2 : (2 : Nat) ^ 64 = 18446744073709551616 := by decide
    unfold Bd
    omega
  have so12 : Same (off H11 fun a => a = p) (off H12 fun a => a = p) := c12.off rfl
  have L1 := L1.mono so12
  have L2 := L2.mono so12
  have L3 := L3.mono so12
  have so512 : Same (off H5 fun a => a = p) (off H12 fun a => a = p) := (off_mono s511).trans so12
  have r1 := Rep.mono so512 r1
  have r2 := Rep.mono so512 r2
  have r3 := Rep.mono so512 r3
  refine lcRT (n := w) (fun R h => by walk_at "rd"; exact h) (dom H12) (fun i => dgR w 1 i) (by omega) (fun _ h => h) (fun _ => rfl) (fun i H13 M1 hi s13 so dm R k13 => ?_) ?_
  · show tCall _ _ _ _ [some (.ref p0), some (.ref p), some (.int (w : Int)), some (.ref D1), some (.ref D2), some (.ref D3), some (.ref o1), none, some (.ref o2), some (.ref o3), some (.int pk), none, some (.int (i : Int)), none, none, none, none, none, none] H13 R
    walk_at "rd"
    exact ⟨_, _, w, i, rfl, rfl, rfl, by omega, fun q H14 s14 n14 e14 => k13 _ _ s14 (rep_row_of (off_in (fun z => dm _ z n14) e14))⟩
  intro q13 x13 H13 s13 n13 e13 a13
  have hU := dg_r6 (w := w) (c := 1) (by decide) (by decide)
  have hlU := hU.len
  walk_at "rd"
  intro o4 d4 m4 k4 j4
  refine make_lat m4 k4 j4 rfl ⟨q13, x13, rfl, e13, all2_mono off_same a13⟩ hU.wid (by omega) (by show (DG w 1).length ≤ 40; omega) hU.sm fun H14 s14 L4 => ⟨rfl, ?_⟩
  have L4 : Lat Z (off H14 fun a => a = p) (.ref o4) w (DG w 1) (stairs (DG w 1) w) := L4 (fun a => a = p) fun a z => by rw [z]; exact (p12.same s13).dom
  rw [dg_st (by decide)] at L4
  have s1214 := s13.trans s14
  walk_at "rd"
  refine lcRT (n := w) (fun R h => by walk_at "rd"; exact h) (dom H14) (fun i => dgR w pk i) (by omega) (fun _ h => h) (fun _ => rfl) (fun i H15 M1 hi s15 so dm R k15 => ?_) ?_
  · show tLc _ _ _ _ _ [some (.ref p0), some (.ref p), some (.int (w : Int)), some (.ref D1), some (.ref D2), some (.ref D3), some (.ref o1), none, some (.ref o2), some (.ref o3), some (.int pk), some (.ref o4), some (.int (i : Int)), none, none, none, none, none, none] H15 R
    refine lcLrS (K := Z.K) (G := fun q H1 => Same H15 H1 ∧ H15 q = none ∧ H1 q = some (.lst ((unitR w i).map V.int))) ((unitR w i).map V.int) (fun R h => ?_) (fun j => pk * at0 (unitR w i) j) (fun q H1 g => SqL.of g.2.2) (by rw [lenV]; simp [unitR]; omega) (fun _ => rfl) (fun j x H16 hj R k16 => ?_) (fun q H1 g => ?_)
    · walk_at "rd"
      exact ⟨_, _, w, i, rfl, rfl, rfl, by omega, fun q H16 s16 n16 e16 => ⟨q, rfl, ⟨_, SqL.of e16⟩, h q H16 ⟨s16, n16, e16⟩⟩⟩
    · obtain ⟨x', hx, rfl⟩ := row_at hj
      obtain rfl := at0_some hx
      show tOp _ _ _ [some (.ref p0), some (.ref p), some (.int (w : Int)), some (.ref D1), some (.ref D2), some (.ref D3), some (.ref o1), none, some (.ref o2), some (.ref o3), some (.int pk), some (.ref o4), some (.int (i : Int)), none, some (.int (at0 (unitR w i) j)), none, none, none, none] H16 R
      walk_at "rd"
      exact w_I (.l bpk) (k16 _ (.refl _))
    · rw [map_at0 (unitR w i) fun x => pk * x, unit_pack]
      intro q17 H17 s17 n17 e17
      exact k15 _ _ (g.1.trans s17) (rep_row_of (off_in (fun z => dm _ z (g.1.free n17)) e17))
  intro q15 x15 H15 s15 n15 e15 a15
  have hP := dg_r6 (w := w) (c := pk) (by omega) hpk2
  have hlP := hP.len
  walk_at "rd"
  intro o5 d5 m5 k5 j5
  refine make_lat m5 k5 j5 rfl ⟨q15, x15, rfl, e15, all2_mono off_same a15⟩ hP.wid (by omega) (by show (DG w pk).length ≤ 40; omega) hP.sm fun H16 s16 L5 => ⟨rfl, ?_⟩
  have L5 : Lat Z (off H16 fun a => a = p) (.ref o5) w (DG w pk) (stairs (DG w pk) w) := L5 (fun a => a = p) fun a z => by rw [z]; exact (p12.same (s1214.trans s15)).dom
  rw [dg_st (by omega)] at L5
  have s1416 := s15.trans s16
  have s1216 := s1214.trans s1416
  have W16 : Lw1 Z (off H16 fun a => a = p) (.ref o1) (.ref o2) (.ref o3) (.ref o4) (.ref o5) (.ref D1) (.ref D2) (.ref D3) w A B C pk :=
    ⟨L1.mono (off_mono s1216), L2.mono (off_mono s1216), L3.mono (off_mono s1216), L4.mono (off_mono s1416), L5, Rep.mono (off_mono s1216) r1, Rep.mono (off_mono s1216) r2, Rep.mono (off_mono s1216) r3⟩
  have p16 := p12.same s1216
  walk_at "rd"
  refine forR (n := w) (fun i σ H' => ∃ e12, σ = [some (.ref p0), some (.ref p), some (.int (w : Int)), some (.ref D1), some (.ref D2), some (.ref D3), some (.ref o1), none, some (.ref o2), some (.ref o3), some (.int pk), some (.ref o4), e12, some (.ref o5), none, some (.int (prodTo i fun _ => pk)), none, none, none] ∧ H' = H16) ⟨_, rfl, rfl⟩ ?_ ?_
  · rintro i σ H' hi ⟨e12, rfl, rfl⟩
    show tAsg _ _ _ [some (.ref p0), some (.ref p), some (.int (w : Int)), some (.ref D1), some (.ref D2), some (.ref D3), some (.ref o1), none, some (.ref o2), some (.ref o3), some (.int pk), some (.ref o4), some (.int (i : Int)), some (.ref o5), none, some (.int (prodTo i fun _ => pk)), none, none, none] H'
    walk_at "rd"
    refine w_I (.r bpk) ?_
    walk_at "rd"
    exact ⟨_, rfl, rfl⟩
  rintro σ H' ⟨e12, rfl, rfl⟩
  generalize hdue : prodTo w (fun _ => pk) = due
  have nP := dg_nrm h4 (show 0 < pk by omega) hpk2
  have nU := dg_nrm h4 (show (0 : Int) < 1 by decide) (by decide)
  generalize hv1 : V.ref o1 = v1 at W16
  generalize hv2 : V.ref o2 = v2 at W16
  generalize hv3 : V.ref o3 = v3 at W16
  generalize hvU : V.ref o4 = vU at W16
  generalize hvP : V.ref o5 = vP at W16
  walk_at "rd"
  refine forR (n := 2) (fun i σ H'' => ∃ e16 e17 e18, σ = [some (.ref p0), some (.ref p), some (.int (w : Int)), some (.ref D1), some (.ref D2), some (.ref D3), some v1, none, some v2, some v3, some (.int pk), some vU, e12, some vP, none, some (.int due), e16, e17, e18] ∧ PurseAt H'' p ∧ Lw1 Z (off H'' fun a => a = p) v1 v2 v3 vU vP (.ref D1) (.ref D2) (.ref D3) w A B C pk) ⟨_, _, _, rfl, p16, W16⟩ ?_ ?_
  · rintro i σ H1 hi ⟨e16, e17, e18, rfl, pu, W⟩
    have WW := W.mono off_same
    show tSeq _ _ _ [some (.ref p0), some (.ref p), some (.int (w : Int)), some (.ref D1), some (.ref D2), some (.ref D3), some v1, none, some v2, some v3, some (.int pk), some vU, e12, some vP, none, some (.int due), some (.int (i : Int)), e17, e18] H1
    walk_at "rd"
    refine lat_meth WW.fP (fun _ _ _ => lk_no (by decide +kernel) (by decide +kernel) (by decide +kernel) (by decide +kernel)) ?_
    walk_at "rd"
    refine ⟨vP, vU, w, _, DG w pk, _, DG w 1, rfl, WW.fP, WW.fU, nP, nU, dg_in (by omega), fun H2 s2 => ?_⟩
    rw [if_pos (by rw [dg_length, dg_length]), dg_length, dg_classes (by omega), hdue]
    walk_at "rd"
    refine w_ite (fun h => absurd rfl h) (fun _ => ?_)
    have W2 := WW.mono s2
    walk_at "rd"
    refine lat_meth W2.fU (fun _ _ _ => lk_no (by decide +kernel) (by decide +kernel) (by decide +kernel) (by decide +kernel)) ?_
    walk_at "rd"
    refine ⟨vU, vP, w, 3108, 3108, _, DG w 1, _, DG w pk, rfl, W2.fU, W2.fP, nP.all nU, fun h => (by rw [dg_out hw0 hpk1] at h; cases h), fun r0 hr q3 H3 s3 n3 e3 => ?_⟩
    rw [dg_out hw0 hpk1] at hr
    cases hr
    walk_at "rd"
    refine ⟨_, _, w, 0, rfl, rfl, rfl, by omega, fun q4 H4 s4 n4 e4 => ?_⟩
    walk_at "rd"
    refine w_neD (a := dgR w 1 0) (b := dgR w 1 0) (rep_row_of (s4 _ _ e3)) (rep_row_of e4) ?_
    walk_at "rd"
    refine w_ite (fun h => absurd rfl h) (fun _ => ?_)
    have W4 := W2.mono (s3.trans s4)
    walk_at "rd"
    refine lat_meth W4.fU (fun _ _ _ => lk_no (by decide +kernel) (by decide +kernel) (by decide +kernel) (by decide +kernel)) ?_
    walk_at "rd"
    refine ⟨vU, vP, w, _, DG w 1, _, DG w pk, rfl, W4.fU, W4.fP, ?_⟩
    rw [decide_eq_false (dg_ne hw0 hpk1)]
    walk_at "rd"
    refine w_notB ?_
    walk_at "rd"
    refine w_nite (fun _ => ?_) (fun h => absurd rfl h)
    walk_at "rd"
    refine ⟨v1, v2, .ref D1, .ref D2, w, A, B, rfl, W4.f1, W4.f2, W4.r1, W4.r2, hA.le (by decide), hB.le (by decide), h4, fun H5 s5 => ?_⟩
    have W5 := W4.mono s5
    walk_at "rd"
    refine ⟨v2, v3, .ref D2, .ref D3, w, B, C, rfl, W5.f2, W5.f3, W5.r2, W5.r3, hB.le (by decide), hC, h4, fun H6 s6 => ?_⟩
    have W6 := W5.mono s6
    walk_at "rd"
    refine ⟨v3, v1, .ref D3, .ref D1, w, C, A, rfl, W6.f3, W6.f1, W6.r3, W6.r1, hC, hA.le (by decide), h4, sub, fun H7 s7 => ?_⟩
    have s17 := s2.trans (s3.trans (s4.trans (s5.trans (s6.trans s7))))
    have W7 := W.mono (off_mono (M := fun a => a = p) s17)
    have p7 := pu.same s17
    clear WW W2 W4 W5 W6
    walk_at "rd"
    refine ⟨small _ (by simp), fun t1 n8 => ?_⟩
    have s8 := same_new (o := .tup [v1, .ref D1]) n8
    have e8 : (upd H7 t1 (.tup [v1, .ref D1])) t1 = some (.tup [v1, .ref D1]) := upd_same
    generalize upd H7 t1 (.tup [v1, .ref D1]) = H8 at s8 e8
    walk_at "rd"
    refine ⟨small _ (by simp), fun t2 n9 => ?_⟩
    have s9 := same_new (o := .tup [v2, .ref D2]) n9
    have e9 : (upd H8 t2 (.tup [v2, .ref D2])) t2 = some (.tup [v2, .ref D2]) := upd_same
    generalize upd H8 t2 (.tup [v2, .ref D2]) = H9 at s9 e9
    walk_at "rd"
    refine ⟨small _ (by simp), fun l10 n10 => ?_⟩
    have s10 := same_new (o := .lst [V.ref t1, .ref t2]) n10
    have e10 : (upd H9 l10 (.lst [V.ref t1, .ref t2])) l10 = some (.lst [V.ref t1, .ref t2]) := upd_same
    generalize upd H9 l10 (.lst [V.ref t1, .ref t2]) = H10 at s10 e10
    have s710 := s8.trans (s9.trans s10)
    have W10 := W7.mono (off_mono (M := fun a => a = p) s710)
    have p10 := p7.same s710
    have nt1 : t1 ≠ p := p7.ne (H0 := H7) n8
    have nt2 : t2 ≠ p := p7.ne (H0 := H7) (s8.free n9)
    have nl : l10 ≠ p := p7.ne (H0 := H7) (s8.free (s9.free n10))
    have two : ∀ (i : Nat) x, [V.ref t1, .ref t2][i]? = some x → ∃ t v u m, x = .ref t ∧ t ≠ p ∧ H10 t = some (.tup [v, u]) ∧ Rows6 w 7 m ∧ ∀ H', Lw1 Z H' v1 v2 v3 vU vP (.ref D1) (.ref D2) (.ref D3) w A B C pk → Lat Z H' v w m (stairs m w) ∧ rep H' u m := fun i x hi => by
      have h2 := (List.getElem?_eq_some_iff.mp hi).1
      have h3 : i = 0 ∨ i = 1 := by simp at h2; omega
      rcases h3 with rfl | rfl
      · cases hi
        exact ⟨t1, v1, .ref D1, A, rfl, nt1, s10 _ _ (s9 _ _ e8), hA.le (by decide), fun H' W => ⟨W.f1, W.r1⟩⟩
      · cases hi
        exact ⟨t2, v2, .ref D2, B, rfl, nt2, s10 _ _ e9, hB.le (by decide), fun H' W => ⟨W.f2, W.r2⟩⟩
    walk_at "rd"
    refine forL (xs := [V.ref t1, .ref t2]) (fun j σ H' => ∃ e17 e18, σ = [some (.ref p0), some (.ref p), some (.int (w : Int)), some (.ref D1), some (.ref D2), some (.ref D3), some v1, none, some v2, some v3, some (.int pk), some vU, e12, some vP, none, some (.int due), some (.int (i : Int)), e17, e18] ∧ Chg p H10 H' ∧ PurseAt H' p) ⟨_, _, rfl, .refl _, p10⟩ (fun j σ H' _ ⟨_, _, _, c, _⟩ => SqL.of (c _ _ nl e10)) ?_ ?_
    · rintro j x σ H11 hj ⟨e17, e18, rfl, c11, p11⟩
      obtain ⟨t, v, u, m, rfl, nt, ht, hm, hW⟩ := two j x hj
      obtain ⟨La, Ra⟩ := hW _ (W10.mono (c11.off (M := fun a => a = p) rfl))
      refine w_gtup2 (c11 _ _ nt ht) ?_
      show tIfS _ _ _ _ [some (.ref p0), some (.ref p), some (.int (w : Int)), some (.ref D1), some (.ref D2), some (.ref D3), some v1, none, some v2, some v3, some (.int pk), some vU, e12, some vP, none, some (.int due), some (.int (i : Int)), some v, some u] H11
      walk_at "rd"
      refine ⟨p, v, u, w, m, rfl, p11, La, Ra, hm, hw0, h4, fun H12 c12 p12 => ?_⟩
      have so : Same (off H11 fun a => a = p) (off H12 fun a => a = p) := c12.off rfl
      walk_at "rd"
      refine ⟨p, v, u, w, m, rfl, p12, La.mono so, Rep.mono so Ra, hm, hw0, h4, fun H13 c13 p13 => ?_⟩
      walk_at "rd"
      exact ⟨_, _, rfl, c11.trans (c12.trans c13), p13⟩
    · rintro σ H11 ⟨e17, e18, rfl, c11, p11⟩
      exact ⟨_, _, _, rfl, p11, W10.mono (c11.off (M := fun a => a = p) rfl)⟩
  · rintro σ H1 ⟨e16, e17, e18, rfl, pu, W⟩
    walk_at "rd"
    exact k _
end
end G
end
section
set_option Elab.async false
set_option linter.all false
set_option maxRecDepth 100000
set_option maxHeartbeats 4000000
namespace G
open PySem L2 PyProof.Rows
theorem fn_mk {P : Program} {w : World} {K : PySem.W.Frag} {mg : Str → Option Value} {base : Heap} {x : Str} {st : Stmt} {N ps : List Str} {k : Nat} {sp : Sp} {t : TS} {f : Addr} {fd : FuncData} (A : Fun K x x st f fd) (S : FnScope N ps (defScope st)) (len : ∀ vs H Q E, sp vs H Q E → vs.length = ps.length)
    (hw : ∀ (f : Addr) (cdv : Value) (A : Around) (outer : List Env) (s : Shared) (H : Hp) (E : XK), Room k (A.deeper (envOfC x (defScope st) s.heap.objs.size f cdv)) → PSs (cxOf CX0 P w K mg base N x (defScope st) f cdv A outer s H E).nox (defBody st) t)
    (hd : ∀ vs H Q E, sp vs H Q E → t { nx := fun _ H' => Q .non H', rt := Q } (start N vs) H) : FnOk P w K mg base CX0 (k + 1) f fd ps sp := A.ok S len fun cdv A outer s H vs Q E hr h => ⟨t, hw f cdv A outer s H E hr, hd vs H Q E h⟩
def top (i : Nat) : Stmt := PySem.Challenge.pw_closedright_k01_lattices_joined_cut_and.main.body.getD i (.Pass ⟨0, 0, 0, 0⟩)
/-- what the text has written besides its defs -/
structure Txt (mg : Str → Option Value) where
  b_len : mg "len" = none
  b_int : mg "int" = none
  b_sum : mg "sum" = none
  b_abs : mg "abs" = none
  b_range : mg "range" = none
  b_max : mg "max" = none
  b_list : mg "list" = none
  b_isinstance : mg "isinstance" = none
  b_bool : mg "bool" = none
  b_tuple : mg "tuple" = none
  t_BOOKS : Tok
  g_BOOKS : mg "BOOKS" = some (.int 9 t_BOOKS)
  t_ROWS : Tok
  g_ROWS : mg "ROWS" = some (.int 40 t_ROWS)
  t_NUMBERS : Tok
  g_NUMBERS : mg "NUMBERS" = some (.int 1000000 t_NUMBERS)
  t_AMOUNTS : Tok
  g_AMOUNTS : mg "AMOUNTS" = some (.int 1000000000000000000000000000000 t_AMOUNTS)
section
variable {P : Program} {w : World} {Z : Ctx} {mg : Str → Option Value} {base : Heap}
abbrev st_law_purse : Stmt := top 44
theorem sc_law_purse : FnScope ["script", "at", "cell", "one", "size"] ["script", "at"] (defScope st_law_purse) := ⟨rfl, rfl, rfl, by decide +kernel, rfl, by decide +kernel, by decide +kernel⟩
theorem ok_law_purse (T : Txt mg) (A : At Z.K mg "_law_purse" st_law_purse) : Cal P w Z.K mg base 2 "_law_purse" (sp_law_purse Z) :=
  cal_mk (k := 1) (t := r_law_purse Z) A sc_law_purse (fun _ _ _ _ => ln_law_purse) (fun _ _ _ _ _ _ us hl => match us, hl with | [_, _], _ => rfl) (fun f cdv A outer s H E hr => (pss_cons (ps_set (i := 2) sc_law_purse.nd rfl (.inl rfl) (pe_ifExp (pt_cmpR op_lt (pv 1) (pe_callB (id := "len") c_len (by rfl) T.b_len (by decide +kernel) (pa_cons (pv 0) pa_nil)) (nomark _)) (pe_callTy (T := "int") c_int (by rfl) T.b_int (by decide +kernel) (pa_cons (pe_ix x_ix (pv 0) (pv 1) (fun _ _ => rfl)) pa_nil)) (pe_op op_mulG pe_int (pe_callB (id := "sum") (cr_sum rfl) (by rfl) T.b_sum (by decide +kernel) (pa_cons (pe_lc (own := [("one", 3)]) (by rfl) sc_law_purse.nd (pi_list (pe_slice sl_list (pv 0) po_none (po_some pe_int))) (blkOk_by (own := [("one", 3)]) (N := nm_law_purse) (sc := defScope st_law_purse) (by decide +kernel)) (fun _ _ _ _ _ => (pg_name (i := 3) sc_law_purse.nd rfl (Or.inl rfl))) (fun _ _ _ _ _ => pts_nil) (fun _ _ _ _ _ => (pe_callTy (T := "int") c_int (by rfl) T.b_int (by decide +kernel) (pa_cons (pv 3) pa_nil)))) pa_nil))))) (pss_cons (ps_set (i := 4) sc_law_purse.nd rfl (.inl rfl) (pe_op op_add (pe_op op_mulG pe_int (pe_callB (id := "abs") c_abs (by rfl) T.b_abs (by decide +kernel) (pa_cons (pv 2) pa_nil))) (pe_ifExp (pt_cmpR op_lt (pv 2) pe_int (nomark _)) pe_int pe_int))) (pss_one (ps_ret (pe_lst (pa_cons (pe_ifExp (pt_cmpR op_ge (pv 4) (pe_op op_pow pe_int pe_int) (nomark _)) (pv 4) pe_int) (pa_cons (pe_op op_modN (pe_callTy (T := "int") c_int (by rfl) T.b_int (by decide +kernel) (pa_cons (pe_op op_add (pe_op op_add (pv 4) (pe_op op_mulG (pv 1) pe_int)) pe_int) pa_nil)) pe_int) (pa_cons (pv 1) pa_nil))))))))) (fun vs H Q E h => rd_law_purse h)
abbrev st_law_draw : Stmt := top 45
theorem sc_law_draw : FnScope ["purse", "many", "found"] ["purse", "many"] (defScope st_law_draw) := ⟨rfl, rfl, rfl, by decide +kernel, rfl, by decide +kernel, by decide +kernel⟩
theorem ok_law_draw (T : Txt mg) (hs : base.NoSeer) (ht : P.given.tree = none) (A : At Z.K mg "_law_draw" st_law_draw) : Cal P w Z.K mg base 33 "_law_draw" (sp_law_draw Z) :=
  cal_mk (k := 32) (t := r_law_draw Z) A sc_law_draw (fun _ _ _ _ => ln_law_draw) (fun _ _ _ _ _ _ us hl => match us, hl with | [_, _], _ => rfl) (fun f cdv A outer s H E hr => (pss_cons (ps_if (pt_cmpR op_gt (pe_ix x_ix (pv 0) pe_int (fun _ _ => rfl)) pe_int (nomark _)) (pss_cons (ps_set (i := 2) sc_law_draw.nd rfl (.inl rfl) (pe_op op_modN (pe_callTy (T := "int") c_int (by rfl) T.b_int (by decide +kernel) (pa_cons (pe_ix x_ix (pv 0) pe_int (fun _ _ => rfl)) pa_nil)) (pv 1))) (pss_cons (ps_asg (pe_op (op_fdivG ⟨hs, ht, ⟨_, outer, rfl, sc_law_draw.gen, sc_law_draw.co, rfl, rfl⟩, depth_of hr (by decide)⟩) (pe_ix x_ix (pv 0) pe_int (fun _ _ => rfl)) (pv 1)) (pg_sub (pv 0) pe_int z_set)) (pss_one (ps_ret (pv 2))))) pss_nil) (pss_cons (ps_augS (pv 0) pe_int z_get pe_int ip_add z_set) (pss_cons (ps_asg (pe_op op_modN (pe_callTy (T := "int") c_int (by rfl) T.b_int (by decide +kernel) (pa_cons (pe_op op_add (pe_op op_mulG (pe_ix x_ix (pv 0) pe_int (fun _ _ => rfl)) pe_int) (pe_op op_mulG (pe_ix x_ix (pv 0) pe_int (fun _ _ => rfl)) pe_int)) pa_nil)) pe_int) (pg_sub (pv 0) pe_int z_set)) (pss_one (ps_ret (pe_op op_modN (pe_op (op_fdivG ⟨hs, ht, ⟨_, outer, rfl, sc_law_draw.gen, sc_law_draw.co, rfl, rfl⟩, depth_of hr (by decide)⟩) (pe_op op_modN (pe_callTy (T := "int") c_int (by rfl) T.b_int (by decide +kernel) (pa_cons (pe_op op_add (pe_op op_mulG (pe_ix x_ix (pv 0) pe_int (fun _ _ => rfl)) pe_int) (pe_op op_mulG (pe_ix x_ix (pv 0) pe_int (fun _ _ => rfl)) pe_int)) pa_nil)) pe_int) pe_int) (pv 1)))))))) (fun vs H Q E h => rd_law_draw h)
abbrev st_law_pack_rows : Stmt := top 77
theorem sc_law_pack_rows : FnScope ["purse", "width", "at", "place"] ["purse", "width"] (defScope st_law_pack_rows) := ⟨rfl, rfl, rfl, by decide +kernel, rfl, by decide +kernel, by decide +kernel⟩
theorem ok_law_pack_rows (T : Txt mg) (C_law_draw : Cal P w Z.K mg base 33 "_law_draw" (sp_law_draw Z)) (A : At Z.K mg "_law_pack_rows" st_law_pack_rows) : Cal P w Z.K mg base 34 "_law_pack_rows" (sp_law_pack_rows Z) :=
  cal_mk (k := 33) (t := r_law_pack_rows Z) A sc_law_pack_rows (fun _ _ _ _ => ln_law_pack_rows) (fun _ _ _ _ _ _ us hl => match us, hl with | [_, _], _ => rfl) (fun f cdv A outer s H E hr => (pss_one (ps_ret (pe_lc (own := [("place", 3)]) (by rfl) sc_law_pack_rows.nd (pi_range1 rfl T.b_range (pa_cons (pv 1) pa_nil)) (blkOk_by (own := [("place", 3)]) (N := nm_law_pack_rows) (sc := defScope st_law_pack_rows) (by decide +kernel)) (fun _ _ _ _ _ => (pg_name (i := 3) sc_law_pack_rows.nd rfl (Or.inr rfl))) (fun _ _ _ _ _ => pts_nil) (fun _ _ _ _ _ => (pe_lc (own := [("at", 2)]) (by rfl) sc_law_pack_rows.nd (pi_range1 rfl T.b_range (pa_cons (pv 1) pa_nil)) (blkOk_by (own := [("at", 2)]) (by kernel_rfl)) (fun _ _ _ _ _ => (pg_name (i := 2) sc_law_pack_rows.nd rfl (Or.inl rfl))) (fun _ _ _ _ _ => pts_nil) (fun _ _ _ _ _ => (pe_ifExp (pt_cmpR op_eq (pv 2) (pv 3) (nomark _)) (pe_op op_add pe_int (g_call C_law_draw (hr.mono (by decide)) rfl (pa_cons (pv 0) (pa_cons pe_int pa_nil)))) pe_int)))))))) (fun vs H Q E h => rd_law_pack_rows h)
abbrev st_law_number : Stmt := top 62
theorem sc_law_number : FnScope ["purse", "kind"] ["purse"] (defScope st_law_number) := ⟨rfl, rfl, rfl, by decide +kernel, rfl, by decide +kernel, by decide +kernel⟩
theorem ok_law_number (C_law_draw : Cal P w Z.K mg base 33 "_law_draw" (sp_law_draw Z)) (A : At Z.K mg "_law_number" st_law_number) : Cal P w Z.K mg base 34 "_law_number" (sp_law_number Z) :=
  cal_mk (k := 33) (t := r_law_number Z) A sc_law_number (fun _ _ _ _ => ln_law_number) (fun _ _ _ _ _ _ us hl => match us, hl with | [_], _ => rfl) (fun f cdv A outer s H E hr => (pss_cons (ps_set (i := 1) sc_law_number.nd rfl (.inl rfl) (g_call C_law_draw (hr.mono (by decide)) rfl (pa_cons (pv 0) (pa_cons pe_int pa_nil)))) (pss_cons (ps_if (pt_cmpR op_eq (pv 1) pe_int (nomark _)) (pss_one (ps_ret (pe_op op_mulG (pe_op op_sub pe_int (pe_op op_mulG pe_int (g_call C_law_draw (hr.mono (by decide)) rfl (pa_cons (pv 0) (pa_cons pe_int pa_nil))))) (pe_op op_sub (pe_op op_pow pe_int pe_int) (g_call C_law_draw (hr.mono (by decide)) rfl (pa_cons (pv 0) (pa_cons pe_int pa_nil))))))) pss_nil) (pss_cons (ps_if (pt_cmpR op_eq (pv 1) pe_int (nomark _)) (pss_one (ps_ret (pe_op op_sub (g_call C_law_draw (hr.mono (by decide)) rfl (pa_cons (pv 0) (pa_cons pe_int pa_nil))) pe_int))) pss_nil) (pss_one (ps_ret (pe_op op_sub (g_call C_law_draw (hr.mono (by decide)) rfl (pa_cons (pv 0) (pa_cons pe_int pa_nil))) pe_int))))))) (fun vs H Q E h => rd_law_number h)
abbrev st_law_row_drawn : Stmt := top 63
theorem sc_law_row_drawn : FnScope ["purse", "width", "place"] ["purse", "width"] (defScope st_law_row_drawn) := ⟨rfl, rfl, rfl, by decide +kernel, rfl, by decide +kernel, by decide +kernel⟩
theorem ok_law_row_drawn (T : Txt mg) (C_law_number : Cal P w Z.K mg base 34 "_law_number" (sp_law_number Z)) (A : At Z.K mg "_law_row_drawn" st_law_row_drawn) : Cal P w Z.K mg base 35 "_law_row_drawn" (sp_law_row_drawn Z) :=
  cal_mk (k := 34) (t := r_law_row_drawn Z) A sc_law_row_drawn (fun _ _ _ _ => ln_law_row_drawn) (fun _ _ _ _ _ _ us hl => match us, hl with | [_, _], _ => rfl) (fun f cdv A outer s H E hr => (pss_one (ps_ret (pe_lc (own := [("place", 2)]) (by rfl) sc_law_row_drawn.nd (pi_range1 rfl T.b_range (pa_cons (pv 1) pa_nil)) (blkOk_by (own := [("place", 2)]) (N := nm_law_row_drawn) (sc := defScope st_law_row_drawn) (by decide +kernel)) (fun _ _ _ _ _ => (pg_name (i := 2) sc_law_row_drawn.nd rfl (Or.inl rfl))) (fun _ _ _ _ _ => pts_nil) (fun _ _ _ _ _ => (g_call C_law_number (hr.mono (by decide)) rfl (pa_cons (pv 0) pa_nil))))))) (fun vs H Q E h => rd_law_row_drawn h)
abbrev st_law_rows_drawn : Stmt := top 64
theorem sc_law_rows_drawn : FnScope ["purse", "width", "most", "rows", "turn", "kind", "times", "base", "one", "place"] ["purse", "width", "most"] (defScope st_law_rows_drawn) := ⟨rfl, rfl, rfl, by decide +kernel, rfl, by decide +kernel, by decide +kernel⟩
theorem ok_law_rows_drawn (T : Txt mg) (C_law_draw : Cal P w Z.K mg base 33 "_law_draw" (sp_law_draw Z)) (C_law_row_drawn : Cal P w Z.K mg base 35 "_law_row_drawn" (sp_law_row_drawn Z)) (A : At Z.K mg "_law_rows_drawn" st_law_rows_drawn) : Cal P w Z.K mg base 36 "_law_rows_drawn" (sp_law_rows_drawn Z) :=
  cal_mk (k := 35) (t := r_law_rows_drawn Z) A sc_law_rows_drawn (fun _ _ _ _ => ln_law_rows_drawn) (fun _ _ _ _ _ _ us hl => match us, hl with | [_, _, _], _ => rfl) (fun f cdv A outer s H E hr => (pss_cons (ps_set (i := 3) sc_law_rows_drawn.nd rfl (.inl rfl) (pe_lst pa_nil)) (pss_cons (ps_for PassesOwn.never rfl (pi_range1 rfl T.b_range (pa_cons (g_call C_law_draw (hr.mono (by decide)) rfl (pa_cons (pv 0) (pa_cons (pe_op op_add (pv 2) pe_int) pa_nil))) pa_nil)) (pg_name (i := 4) sc_law_rows_drawn.nd rfl (.inl rfl)) (pss_cons (ps_set (i := 5) sc_law_rows_drawn.nd rfl (.inl rfl) (g_call C_law_draw (hr.mono (by decide)) rfl (pa_cons (pv 0) (pa_cons pe_int pa_nil)))) (pss_one (ps_if (PW.pt (pw_and (pt_cmpR op_eq (pv 5) pe_int (nomark _)) (pw_and1 (pt_cmpR op_gt (pe_callB (id := "len") c_len (by rfl) T.b_len (by decide +kernel) (pa_cons (pv 3) pa_nil)) pe_int (nomark _))))) (pss_cons (ps_set (i := 6) sc_law_rows_drawn.nd rfl (.inr rfl) (pe_op op_sub pe_int (g_call C_law_draw (hr.mono (by decide)) rfl (pa_cons (pv 0) (pa_cons pe_int pa_nil))))) (pss_cons (ps_set (i := 7) sc_law_rows_drawn.nd rfl (.inl rfl) (pe_ix x_ix (pv 3) (g_call C_law_draw (hr.mono (by decide)) rfl (pa_cons (pv 0) (pa_cons (pe_callB (id := "len") c_len (by rfl) T.b_len (by decide +kernel) (pa_cons (pv 3) pa_nil)) pa_nil))) (fun _ _ => rfl))) (pss_one (ps_expr (pe_bm PySem.F.plainAttrs_list PySem.F.slot_list_append PySem.F.type_list_append mt_append (pv 3) (pa_cons (pe_lc (own := [("one", 8)]) (by rfl) sc_law_rows_drawn.nd (pi_list (pv 7)) (blkOk_by (own := [("one", 8)]) (N := nm_law_rows_drawn) (sc := defScope st_law_rows_drawn) (by decide +kernel)) (fun _ _ _ _ _ => (pg_name (i := 8) sc_law_rows_drawn.nd rfl (Or.inl rfl))) (fun _ _ _ _ _ => pts_nil) (fun _ _ _ _ _ => (pe_ifExp (pt_cmpR op_le (pe_callB (id := "abs") c_abs (by rfl) T.b_abs (by decide +kernel) (pa_cons (pe_op op_mulG (pv 6) (pv 8)) pa_nil)) (pe_op op_pow pe_int pe_int) (nomark _)) (pe_op op_mulG (pv 6) (pv 8)) pe_int))) pa_nil)))))) (pss_one (ps_if (pt_cmpR op_eq (pv 5) pe_int (nomark _)) (pss_one (ps_expr (pe_bm PySem.F.plainAttrs_list PySem.F.slot_list_append PySem.F.type_list_append mt_append (pv 3) (pa_cons (pe_lc (own := [("place", 9)]) (by rfl) sc_law_rows_drawn.nd (pi_range1 rfl T.b_range (pa_cons (pv 1) pa_nil)) (blkOk_by (own := [("place", 9)]) (N := nm_law_rows_drawn) (sc := defScope st_law_rows_drawn) (by decide +kernel)) (fun _ _ _ _ _ => (pg_name (i := 9) sc_law_rows_drawn.nd rfl (Or.inl rfl))) (fun _ _ _ _ _ => pts_nil) (fun _ _ _ _ _ => (pe_op op_mulG (pe_op op_add pe_int (g_call C_law_draw (hr.mono (by decide)) rfl (pa_cons (pv 0) (pa_cons pe_int pa_nil)))) (pe_op op_sub (g_call C_law_draw (hr.mono (by decide)) rfl (pa_cons (pv 0) (pa_cons pe_int pa_nil))) pe_int)))) pa_nil)))) (pss_one (ps_if (pt_cmpR op_eq (pv 5) pe_int (nomark _)) (pss_one (ps_expr (pe_bm PySem.F.plainAttrs_list PySem.F.slot_list_append PySem.F.type_list_append mt_append (pv 3) (pa_cons (pe_lc (own := [("place", 9)]) (by rfl) sc_law_rows_drawn.nd (pi_range1 rfl T.b_range (pa_cons (pv 1) pa_nil)) (blkOk_by (own := [("place", 9)]) (N := nm_law_rows_drawn) (sc := defScope st_law_rows_drawn) (by decide +kernel)) (fun _ _ _ _ _ => (pg_name (i := 9) sc_law_rows_drawn.nd rfl (Or.inl rfl))) (fun _ _ _ _ _ => pts_nil) (fun _ _ _ _ _ => (pe_op op_sub (g_call C_law_draw (hr.mono (by decide)) rfl (pa_cons (pv 0) (pa_cons pe_int pa_nil))) pe_int))) pa_nil)))) (pss_one (ps_expr (pe_bm PySem.F.plainAttrs_list PySem.F.slot_list_append PySem.F.type_list_append mt_append (pv 3) (pa_cons (g_call C_law_row_drawn (hr.mono (by decide)) rfl (pa_cons (pv 0) (pa_cons (pv 1) pa_nil))) pa_nil)))))))))))) (pss_one (ps_ret (pv 3)))))) (fun vs H Q E h => rd_law_rows_drawn h)
abbrev st_law_mixed : Stmt := top 60
theorem sc_law_mixed : FnScope ["amounts", "rows", "width", "total", "at", "place"] ["amounts", "rows", "width"] (defScope st_law_mixed) := ⟨rfl, rfl, rfl, by decide +kernel, rfl, by decide +kernel, by decide +kernel⟩
theorem ok_law_mixed (T : Txt mg) (A : At Z.K mg "_law_mixed" st_law_mixed) : Cal P w Z.K mg base 2 "_law_mixed" (sp_law_mixed Z) :=
  cal_mk (k := 1) (t := r_law_mixed Z) A sc_law_mixed (fun _ _ _ _ => ln_law_mixed) (fun _ _ _ _ _ _ us hl => match us, hl with | [_, _, _], _ => rfl) (fun f cdv A outer s H E hr => (pss_cons (ps_set (i := 3) sc_law_mixed.nd rfl (.inr rfl) (pe_op op_rep (pe_lst (pa_cons pe_int pa_nil)) (pv 2))) (pss_cons (ps_for PassesOwn.never rfl (pi_range1 rfl T.b_range (pa_cons (pe_callB (id := "len") c_len (by rfl) T.b_len (by decide +kernel) (pa_cons (pv 1) pa_nil)) pa_nil)) (pg_name (i := 4) sc_law_mixed.nd rfl (.inr rfl)) (pss_one (ps_set (i := 3) sc_law_mixed.nd rfl (Or.inr rfl) (pe_lc (own := [("place", 5)]) (by rfl) sc_law_mixed.nd (pi_range1 rfl T.b_range (pa_cons (pv 2) pa_nil)) (blkOk_by (own := [("place", 5)]) (N := nm_law_mixed) (sc := defScope st_law_mixed) (by decide +kernel)) (fun _ _ _ _ _ => (pg_name (i := 5) sc_law_mixed.nd rfl (Or.inl rfl))) (fun _ _ _ _ _ => pts_nil) (fun _ _ _ _ _ => (pe_op op_add (pe_ix x_ix (pv 3) (pv 5) (fun _ _ => rfl)) (pe_op op_mulG (pe_ix x_ix (pv 0) (pv 4) (fun _ _ => rfl)) (pe_ix x_ix (pe_ix x_ix (pv 1) (pv 4) (fun _ _ => rfl)) (pv 5) (fun _ _ => rfl))))))))) (pss_one (ps_ret (pv 3)))))) (fun vs H Q E h => rd_law_mixed h)
abbrev st_law_inner_rows : Stmt := top 67
theorem sc_law_inner_rows : FnScope ["purse", "rows", "width", "found", "turn", "amounts", "row", "mixed", "one", "times"] ["purse", "rows", "width"] (defScope st_law_inner_rows) := ⟨rfl, rfl, rfl, by decide +kernel, rfl, by decide +kernel, by decide +kernel⟩
theorem ok_law_inner_rows (T : Txt mg) (C_law_draw : Cal P w Z.K mg base 33 "_law_draw" (sp_law_draw Z)) (C_law_mixed : Cal P w Z.K mg base 2 "_law_mixed" (sp_law_mixed Z)) (A : At Z.K mg "_law_inner_rows" st_law_inner_rows) : Cal P w Z.K mg base 34 "_law_inner_rows" (sp_law_inner_rows Z) :=
  cal_mk (k := 33) (t := r_law_inner_rows Z) A sc_law_inner_rows (fun _ _ _ _ => ln_law_inner_rows) (fun _ _ _ _ _ _ us hl => match us, hl with | [_, _, _], _ => rfl) (fun f cdv A outer s H E hr => (pss_cons (ps_set (i := 3) sc_law_inner_rows.nd rfl (.inl rfl) (pe_lst pa_nil)) (pss_cons (ps_for PassesOwn.never rfl (pi_range1 rfl T.b_range (pa_cons (pe_ifExp (pt_cmpR op_gt (pe_callB (id := "len") c_len (by rfl) T.b_len (by decide +kernel) (pa_cons (pv 1) pa_nil)) pe_int (nomark _)) (g_call C_law_draw (hr.mono (by decide)) rfl (pa_cons (pv 0) (pa_cons pe_int pa_nil))) pe_int) pa_nil)) (pg_name (i := 4) sc_law_inner_rows.nd rfl (.inl rfl)) (pss_cons (ps_setLc (i := 5) (own := [("row", 6)]) (by rfl) sc_law_inner_rows.nd rfl rfl (sw_true rfl rfl rfl (by decide +kernel)) (pi_list (pv 1)) (blkOk_by (own := [("row", 6)]) (N := nm_law_inner_rows) (sc := defScope st_law_inner_rows) (by decide +kernel)) (fun _ _ _ _ _ => (pg_name (i := 6) sc_law_inner_rows.nd rfl (Or.inl rfl))) (fun _ _ _ _ _ => pts_nil) (fun _ _ _ _ _ => (pe_op op_sub (g_call C_law_draw (hr.mono (by decide)) rfl (pa_cons (pv 0) (pa_cons pe_int pa_nil))) pe_int))) (pss_cons (ps_set (i := 7) sc_law_inner_rows.nd rfl (.inl rfl) (g_call C_law_mixed (hr.mono (by decide)) rfl (pa_cons (pv 5) (pa_cons (pv 1) (pa_cons (pv 2) pa_nil))))) (pss_one (ps_if (pt_cmpR op_le (pe_callB (id := "max") (cr_max rfl) (by rfl) T.b_max (by decide +kernel) (pa_cons (pe_lc (own := [("one", 8)]) (by rfl) sc_law_inner_rows.nd (pi_list (pv 7)) (blkOk_by (own := [("one", 8)]) (N := nm_law_inner_rows) (sc := defScope st_law_inner_rows) (by decide +kernel)) (fun _ _ _ _ _ => (pg_name (i := 8) sc_law_inner_rows.nd rfl (Or.inl rfl))) (fun _ _ _ _ _ => pts_nil) (fun _ _ _ _ _ => (pe_callB (id := "abs") c_abs (by rfl) T.b_abs (by decide +kernel) (pa_cons (pv 8) pa_nil)))) pa_nil)) (pe_op op_pow pe_int pe_int) (nomark _)) (pss_one (ps_expr (pe_bm PySem.F.plainAttrs_list PySem.F.slot_list_append PySem.F.type_list_append mt_append (pv 3) (pa_cons (pv 7) pa_nil)))) pss_nil))))) (pss_cons (ps_if (pt_cmpR op_eq (g_call C_law_draw (hr.mono (by decide)) rfl (pa_cons (pv 0) (pa_cons pe_int pa_nil))) pe_int (nomark _)) (pss_cons (ps_set (i := 9) sc_law_inner_rows.nd rfl (.inr rfl) (pe_op op_add pe_int (g_call C_law_draw (hr.mono (by decide)) rfl (pa_cons (pv 0) (pa_cons pe_int pa_nil))))) (pss_one (ps_set (i := 3) sc_law_inner_rows.nd rfl (.inl rfl) (pe_op op_cat (pv 3) (pe_lc (own := [("row", 6)]) (by rfl) sc_law_inner_rows.nd (pi_list (pv 1)) (blkOk_by (own := [("row", 6)]) (N := nm_law_inner_rows) (sc := defScope st_law_inner_rows) (by decide +kernel)) (fun _ _ _ _ _ => (pg_name (i := 6) sc_law_inner_rows.nd rfl (Or.inl rfl))) (fun _ _ _ _ _ => (pts_one (pt_cmpR op_le (pe_callB (id := "max") (cr_max rfl) (by rfl) T.b_max (by decide +kernel) (pa_cons (pe_lc (own := [("one", 8)]) (by rfl) sc_law_inner_rows.nd (pi_list (pv 6)) (blkOk_by (own := [("one", 8)]) (by kernel_rfl)) (fun _ _ _ _ _ => (pg_name (i := 8) sc_law_inner_rows.nd rfl (Or.inl rfl))) (fun _ _ _ _ _ => pts_nil) (fun _ _ _ _ _ => (pe_callB (id := "abs") c_abs (by rfl) T.b_abs (by decide +kernel) (pa_cons (pv 8) pa_nil)))) pa_nil)) (pe_op op_pow pe_int pe_int) (nomark _)))) (fun _ _ _ _ _ => (pe_lc (own := [("one", 8)]) (by rfl) sc_law_inner_rows.nd (pi_list (pv 6)) (blkOk_by (own := [("one", 8)]) (by kernel_rfl)) (fun _ _ _ _ _ => (pg_name (i := 8) sc_law_inner_rows.nd rfl (Or.inl rfl))) (fun _ _ _ _ _ => pts_nil) (fun _ _ _ _ _ => (pe_op op_mulG (pv 9) (pv 8)))))))))) pss_nil) (pss_one (ps_ret (pv 3))))))) (fun vs H Q E h => rd_law_inner_rows h)
abbrev st_law_unit : Stmt := top 49
theorem sc_law_unit : FnScope ["width", "place", "at"] ["width", "place"] (defScope st_law_unit) := ⟨rfl, rfl, rfl, by decide +kernel, rfl, by decide +kernel, by decide +kernel⟩
theorem ok_law_unit (T : Txt mg) (A : At Z.K mg "_law_unit" st_law_unit) : Cal P w Z.K mg base 2 "_law_unit" (sp_law_unit Z) :=
  cal_mk (k := 1) (t := r_law_unit Z) A sc_law_unit (fun _ _ _ _ => ln_law_unit) (fun _ _ _ _ _ _ us hl => match us, hl with | [_, _], _ => rfl) (fun f cdv A outer s H E hr => (pss_one (ps_ret (pe_lc (own := [("at", 2)]) (by rfl) sc_law_unit.nd (pi_range1 rfl T.b_range (pa_cons (pv 0) pa_nil)) (blkOk_by (own := [("at", 2)]) (N := nm_law_unit) (sc := defScope st_law_unit) (by decide +kernel)) (fun _ _ _ _ _ => (pg_name (i := 2) sc_law_unit.nd rfl (Or.inl rfl))) (fun _ _ _ _ _ => pts_nil) (fun _ _ _ _ _ => (pe_ifExp (pt_cmpR op_eq (pv 2) (pv 1) (nomark _)) pe_int pe_int)))))) (fun vs H Q E h => rd_law_unit h)
abbrev st_law_less : Stmt := top 47
theorem sc_law_less : FnScope ["row", "number", "other", "place"] ["row", "number", "other"] (defScope st_law_less) := ⟨rfl, rfl, rfl, by decide +kernel, rfl, by decide +kernel, by decide +kernel⟩
theorem ok_law_less (T : Txt mg) (A : At Z.K mg "_law_less" st_law_less) : Cal P w Z.K mg base 2 "_law_less" (sp_law_less Z) :=
  cal_mk (k := 1) (t := r_law_less Z) A sc_law_less (fun _ _ _ _ => ln_law_less) (fun _ _ _ _ _ _ us hl => match us, hl with | [_, _, _], _ => rfl) (fun f cdv A outer s H E hr => (pss_one (ps_ret (pe_lc (own := [("place", 3)]) (by rfl) sc_law_less.nd (pi_range1 rfl T.b_range (pa_cons (pe_callB (id := "len") c_len (by rfl) T.b_len (by decide +kernel) (pa_cons (pv 0) pa_nil)) pa_nil)) (blkOk_by (own := [("place", 3)]) (N := nm_law_less) (sc := defScope st_law_less) (by decide +kernel)) (fun _ _ _ _ _ => (pg_name (i := 3) sc_law_less.nd rfl (Or.inl rfl))) (fun _ _ _ _ _ => pts_nil) (fun _ _ _ _ _ => (pe_op op_sub (pe_ix x_ix (pv 0) (pv 3) (fun _ _ => rfl)) (pe_op op_mulG (pv 1) (pe_ix x_ix (pv 2) (pv 3) (fun _ _ => rfl))))))))) (fun vs H Q E h => rd_law_less h)
abbrev st_law_pull : Stmt := top 51
theorem sc_law_pull : FnScope ["left", "place", "busy", "number", "best", "lead", "one"] ["left", "place"] (defScope st_law_pull) := ⟨rfl, rfl, rfl, by decide +kernel, rfl, by decide +kernel, by decide +kernel⟩
theorem ok_law_pull (T : Txt mg) (hs : base.NoSeer) (ht : P.given.tree = none) (C_law_less : Cal P w Z.K mg base 2 "_law_less" (sp_law_less Z)) (A : At Z.K mg "_law_pull" st_law_pull) : Cal P w Z.K mg base 33 "_law_pull" (sp_law_pull Z) :=
  cal_mk (k := 32) (t := r_law_pull Z) A sc_law_pull (fun _ _ _ _ => ln_law_pull) (fun _ _ _ _ _ _ us hl => match us, hl with | [_, _], _ => rfl) (fun f cdv A outer s H E hr => (pss_one (ps_while PassesOwn.never (pt_val pe_bl) (pss_cons (ps_setLc (i := 2) (own := [("number", 3)]) (by rfl) sc_law_pull.nd rfl rfl (sw_true rfl rfl rfl (by decide +kernel)) (pi_range1 rfl T.b_range (pa_cons (pe_callB (id := "len") c_len (by rfl) T.b_len (by decide +kernel) (pa_cons (pv 0) pa_nil)) pa_nil)) (blkOk_by (own := [("number", 3)]) (N := nm_law_pull) (sc := defScope st_law_pull) (by decide +kernel)) (fun _ _ _ _ _ => (pg_name (i := 3) sc_law_pull.nd rfl (Or.inl rfl))) (fun _ _ _ _ _ => (pts_one (pt_cmpR op_ne (pe_ix x_ix (pe_ix x_ix (pv 0) (pv 3) (fun _ _ => rfl)) (pv 1) (fun _ _ => rfl)) pe_int (nomark _)))) (fun _ _ _ _ _ => (pv 3))) (pss_cons (ps_if (pt_cmpR (op_eqD hr.units) (pv 2) (pe_lst pa_nil) (nomark _)) (pss_one (ps_ret pe_non)) pss_nil) (pss_cons (ps_set (i := 4) sc_law_pull.nd rfl (.inl rfl) (pe_ix x_ix (pv 2) pe_int (fun _ _ => rfl))) (pss_cons (ps_for PassesOwn.never rfl (pi_list (pv 2)) (pg_name (i := 3) sc_law_pull.nd rfl (.inl rfl)) (pss_one (ps_if (pt_cmpR op_lt (pe_callB (id := "abs") c_abs (by rfl) T.b_abs (by decide +kernel) (pa_cons (pe_ix x_ix (pe_ix x_ix (pv 0) (pv 3) (fun _ _ => rfl)) (pv 1) (fun _ _ => rfl)) pa_nil)) (pe_callB (id := "abs") c_abs (by rfl) T.b_abs (by decide +kernel) (pa_cons (pe_ix x_ix (pe_ix x_ix (pv 0) (pv 4) (fun _ _ => rfl)) (pv 1) (fun _ _ => rfl)) pa_nil)) (nomark _)) (pss_one (ps_set (i := 4) sc_law_pull.nd rfl (.inl rfl) (pv 3))) pss_nil))) (pss_cons (ps_if (pt_cmpR op_eq (pe_callB (id := "len") c_len (by rfl) T.b_len (by decide +kernel) (pa_cons (pv 2) pa_nil)) pe_int (nomark _)) (pss_cons (ps_set (i := 5) sc_law_pull.nd rfl (.inl rfl) (pe_bm PySem.F.plainAttrs_list PySem.F.slot_list_pop PySem.F.type_list_pop mt_popAt (pv 0) (pa_cons (pv 4) pa_nil))) (pss_one (ps_ret (pe_ifExp (pt_cmpR op_gt (pe_ix x_ix (pv 5) (pv 1) (fun _ _ => rfl)) pe_int (nomark _)) (pv 5) (pe_lc (own := [("one", 6)]) (by rfl) sc_law_pull.nd (pi_list (pv 5)) (blkOk_by (own := [("one", 6)]) (N := nm_law_pull) (sc := defScope st_law_pull) (by decide +kernel)) (fun _ _ _ _ _ => (pg_name (i := 6) sc_law_pull.nd rfl (Or.inl rfl))) (fun _ _ _ _ _ => pts_nil) (fun _ _ _ _ _ => (pe_un un_neg (pv 6)))))))) pss_nil) (pss_one (ps_for PassesOwn.never rfl (pi_list (pv 2)) (pg_name (i := 3) sc_law_pull.nd rfl (.inl rfl)) (pss_one (ps_if (pt_cmpR op_ne (pv 3) (pv 4) (nomark _)) (pss_one (ps_asg (g_call C_law_less (hr.mono (by decide)) rfl (pa_cons (pe_ix x_ix (pv 0) (pv 3) (fun _ _ => rfl)) (pa_cons (pe_op (op_fdivG ⟨hs, ht, ⟨_, outer, rfl, sc_law_pull.gen, sc_law_pull.co, rfl, rfl⟩, depth_of hr (by decide)⟩) (pe_ix x_ix (pe_ix x_ix (pv 0) (pv 3) (fun _ _ => rfl)) (pv 1) (fun _ _ => rfl)) (pe_ix x_ix (pe_ix x_ix (pv 0) (pv 4) (fun _ _ => rfl)) (pv 1) (fun _ _ => rfl))) (pa_cons (pe_ix x_ix (pv 0) (pv 4) (fun _ _ => rfl)) pa_nil)))) (pg_sub (pv 0) (pv 3) z_set))) pss_nil)))))))))))) (fun vs H Q E h => rd_law_pull h)
abbrev st_law_stairs_rest : Stmt := top 52
theorem sc_law_stairs_rest : FnScope ["rows", "width", "left", "row", "stairs", "place", "lead"] ["rows", "width"] (defScope st_law_stairs_rest) := ⟨rfl, rfl, rfl, by decide +kernel, rfl, by decide +kernel, by decide +kernel⟩
theorem ok_law_stairs_rest (T : Txt mg) (hs : base.NoSeer) (ht : P.given.tree = none) (C_law_pull : Cal P w Z.K mg base 33 "_law_pull" (sp_law_pull Z)) (C_law_less : Cal P w Z.K mg base 2 "_law_less" (sp_law_less Z)) (A : At Z.K mg "_law_stairs_rest" st_law_stairs_rest) : Cal P w Z.K mg base 34 "_law_stairs_rest" (sp_law_stairs_rest Z) :=
  cal_mk (k := 33) (t := r_law_stairs_rest Z) A sc_law_stairs_rest (fun _ _ _ _ => ln_law_stairs_rest) (fun _ _ _ _ _ _ us hl => match us, hl with | [_, _], _ => rfl) (fun f cdv A outer s H E hr => (pss_cons (ps_setLc (i := 2) (own := [("row", 3)]) (by rfl) sc_law_stairs_rest.nd rfl rfl (sw_true rfl rfl rfl (by decide +kernel)) (pi_list (pv 0)) (blkOk_by (own := [("row", 3)]) (N := nm_law_stairs_rest) (sc := defScope st_law_stairs_rest) (by decide +kernel)) (fun _ _ _ _ _ => (pg_name (i := 3) sc_law_stairs_rest.nd rfl (Or.inl rfl))) (fun _ _ _ _ _ => pts_nil) (fun _ _ _ _ _ => (pe_callTy (T := "list") c_list (by rfl) T.b_list (by decide +kernel) (pa_cons (pv 3) pa_nil)))) (pss_cons (ps_set (i := 4) sc_law_stairs_rest.nd rfl (.inl rfl) (pe_lst pa_nil)) (pss_cons (ps_for PassesOwn.never rfl (pi_range1 rfl T.b_range (pa_cons (pv 1) pa_nil)) (pg_name (i := 5) sc_law_stairs_rest.nd rfl (.inr rfl)) (pss_cons (ps_set (i := 6) sc_law_stairs_rest.nd rfl (.inr rfl) (g_call C_law_pull (hr.mono (by decide)) rfl (pa_cons (pv 2) (pa_cons (pv 5) pa_nil)))) (pss_one (ps_if (pt_cmpR o_notN (pv 6) pe_non (nomark _)) (pss_cons (ps_setLc (i := 4) (own := [("row", 3)]) (by rfl) sc_law_stairs_rest.nd rfl rfl (sw_true rfl rfl rfl (by decide +kernel)) (pi_list (pv 4)) (blkOk_by (own := [("row", 3)]) (N := nm_law_stairs_rest) (sc := defScope st_law_stairs_rest) (by decide +kernel)) (fun _ _ _ _ _ => (pg_name (i := 3) sc_law_stairs_rest.nd rfl (Or.inl rfl))) (fun _ _ _ _ _ => pts_nil) (fun _ _ _ _ _ => (g_call C_law_less (hr.mono (by decide)) rfl (pa_cons (pv 3) (pa_cons (pe_op (op_fdivG ⟨hs, ht, ⟨_, outer, rfl, sc_law_stairs_rest.gen, sc_law_stairs_rest.co, rfl, rfl⟩, depth_of hr (by decide)⟩) (pe_ix x_ix (pv 3) (pv 5) (fun _ _ => rfl)) (pe_ix x_ix (pv 6) (pv 5) (fun _ _ => rfl))) (pa_cons (pv 6) pa_nil)))))) (pss_one (ps_expr (pe_bm PySem.F.plainAttrs_list PySem.F.slot_list_append PySem.F.type_list_append mt_append (pv 4) (pa_cons (pv 6) pa_nil))))) pss_nil)))) (pss_one (ps_ret (pe_lst (pa_cons (pv 4) (pa_cons (pv 2) pa_nil))))))))) (fun vs H Q E h => rd_law_stairs_rest h)
abbrev st_law_stairs : Stmt := top 53
theorem sc_law_stairs : FnScope ["rows", "width"] ["rows", "width"] (defScope st_law_stairs) := ⟨rfl, rfl, rfl, by decide +kernel, rfl, by decide +kernel, by decide +kernel⟩
theorem ok_law_stairs (C_law_stairs_rest : Cal P w Z.K mg base 34 "_law_stairs_rest" (sp_law_stairs_rest Z)) (A : At Z.K mg "_law_stairs" st_law_stairs) : Cal P w Z.K mg base 35 "_law_stairs" (sp_law_stairs Z) :=
  cal_mk (k := 34) (t := r_law_stairs Z) A sc_law_stairs (fun _ _ _ _ => ln_law_stairs) (fun _ _ _ _ _ _ us hl => match us, hl with | [_, _], _ => rfl) (fun f cdv A outer s H E hr => (pss_one (ps_ret (pe_ix x_ix (g_call C_law_stairs_rest (hr.mono (by decide)) rfl (pa_cons (pv 0) (pa_cons (pv 1) pa_nil))) pe_int (fun _ _ => rfl))))) (fun vs H Q E h => rd_law_stairs h)
abbrev st_law_zero : Stmt := top 48
theorem sc_law_zero : FnScope ["row", "one"] ["row"] (defScope st_law_zero) := ⟨rfl, rfl, rfl, by decide +kernel, rfl, by decide +kernel, by decide +kernel⟩
theorem ok_law_zero (T : Txt mg) (A : At Z.K mg "_law_zero" st_law_zero) : Cal P w Z.K mg base 2 "_law_zero" (sp_law_zero Z) :=
  cal_mk (k := 1) (t := r_law_zero Z) A sc_law_zero (fun _ _ _ _ => ln_law_zero) (fun _ _ _ _ _ _ us hl => match us, hl with | [_], _ => rfl) (fun f cdv A outer s H E hr => (pss_one (ps_ret (pe_cmpR op_eq (pe_callB (id := "len") c_len (by rfl) T.b_len (by decide +kernel) (pa_cons (pe_lc (own := [("one", 1)]) (by rfl) sc_law_zero.nd (pi_list (pv 0)) (blkOk_by (own := [("one", 1)]) (N := nm_law_zero) (sc := defScope st_law_zero) (by decide +kernel)) (fun _ _ _ _ _ => (pg_name (i := 1) sc_law_zero.nd rfl (Or.inl rfl))) (fun _ _ _ _ _ => (pts_one (pt_cmpR op_ne (pv 1) pe_int (nomark _)))) (fun _ _ _ _ _ => (pv 1))) pa_nil)) pe_int (nomark _))))) (fun vs H Q E h => rd_law_zero h)
abbrev st_law_reduced : Stmt := top 54
theorem sc_law_reduced : FnScope ["stairs", "row", "left", "stair", "place", "at"] ["stairs", "row"] (defScope st_law_reduced) := ⟨rfl, rfl, rfl, by decide +kernel, rfl, by decide +kernel, by decide +kernel⟩
theorem ok_law_reduced (T : Txt mg) (hs : base.NoSeer) (ht : P.given.tree = none) (C_law_less : Cal P w Z.K mg base 2 "_law_less" (sp_law_less Z)) (A : At Z.K mg "_law_reduced" st_law_reduced) : Cal P w Z.K mg base 33 "_law_reduced" (sp_law_reduced Z) :=
  cal_mk (k := 32) (t := r_law_reduced Z) A sc_law_reduced (fun _ _ _ _ => ln_law_reduced) (fun _ _ _ _ _ _ us hl => match us, hl with | [_, _], _ => rfl) (fun f cdv A outer s H E hr => (pss_cons (ps_set (i := 2) sc_law_reduced.nd rfl (.inl rfl) (pe_callTy (T := "list") c_list (by rfl) T.b_list (by decide +kernel) (pa_cons (pv 1) pa_nil))) (pss_cons (ps_for PassesOwn.never rfl (pi_list (pv 0)) (pg_name (i := 3) sc_law_reduced.nd rfl (.inr rfl)) (pss_cons (ps_set (i := 4) sc_law_reduced.nd rfl (.inl rfl) (pe_ix x_ix (pe_lc (own := [("at", 5)]) (by rfl) sc_law_reduced.nd (pi_range1 rfl T.b_range (pa_cons (pe_callB (id := "len") c_len (by rfl) T.b_len (by decide +kernel) (pa_cons (pv 3) pa_nil)) pa_nil)) (blkOk_by (own := [("at", 5)]) (N := nm_law_reduced) (sc := defScope st_law_reduced) (by decide +kernel)) (fun _ _ _ _ _ => (pg_name (i := 5) sc_law_reduced.nd rfl (Or.inl rfl))) (fun _ _ _ _ _ => (pts_one (pt_cmpR op_ne (pe_ix x_ix (pv 3) (pv 5) (fun _ _ => rfl)) pe_int (nomark _)))) (fun _ _ _ _ _ => (pv 5))) pe_int (fun _ _ => rfl))) (pss_one (ps_set (i := 2) sc_law_reduced.nd rfl (.inl rfl) (g_call C_law_less (hr.mono (by decide)) rfl (pa_cons (pv 2) (pa_cons (pe_op (op_fdivG ⟨hs, ht, ⟨_, outer, rfl, sc_law_reduced.gen, sc_law_reduced.co, rfl, rfl⟩, depth_of hr (by decide)⟩) (pe_ix x_ix (pv 2) (pv 4) (fun _ _ => rfl)) (pe_ix x_ix (pv 3) (pv 4) (fun _ _ => rfl))) (pa_cons (pv 3) pa_nil)))))))) (pss_one (ps_ret (pv 2)))))) (fun vs H Q E h => rd_law_reduced h)
abbrev st_law_held : Stmt := top 55
theorem sc_law_held : FnScope ["stairs", "row"] ["stairs", "row"] (defScope st_law_held) := ⟨rfl, rfl, rfl, by decide +kernel, rfl, by decide +kernel, by decide +kernel⟩
theorem ok_law_held (C_law_zero : Cal P w Z.K mg base 2 "_law_zero" (sp_law_zero Z)) (C_law_reduced : Cal P w Z.K mg base 33 "_law_reduced" (sp_law_reduced Z)) (A : At Z.K mg "_law_held" st_law_held) : Cal P w Z.K mg base 34 "_law_held" (sp_law_held Z) :=
  cal_mk (k := 33) (t := r_law_held Z) A sc_law_held (fun _ _ _ _ => ln_law_held) (fun _ _ _ _ _ _ us hl => match us, hl with | [_, _], _ => rfl) (fun f cdv A outer s H E hr => (pss_one (ps_ret (g_call C_law_zero (hr.mono (by decide)) rfl (pa_cons (g_call C_law_reduced (hr.mono (by decide)) rfl (pa_cons (pv 0) (pa_cons (pv 1) pa_nil))) pa_nil))))) (fun vs H Q E h => rd_law_held h)
abbrev st_law_within_first : Stmt := top 66
theorem sc_law_within_first : FnScope ["rows", "stairs", "row"] ["rows", "stairs"] (defScope st_law_within_first) := ⟨rfl, rfl, rfl, by decide +kernel, rfl, by decide +kernel, by decide +kernel⟩
theorem ok_law_within_first (C_law_held : Cal P w Z.K mg base 34 "_law_held" (sp_law_held Z)) (A : At Z.K mg "_law_within_first" st_law_within_first) : Cal P w Z.K mg base 35 "_law_within_first" (sp_law_within_first Z) :=
  cal_mk (k := 34) (t := r_law_within_first Z) A sc_law_within_first (fun _ _ _ _ => ln_law_within_first) (fun _ _ _ _ _ _ us hl => match us, hl with | [_, _], _ => rfl) (fun f cdv A outer s H E hr => (pss_cons (ps_for PassesOwn.never rfl (pi_list (pv 0)) (pg_name (i := 2) sc_law_within_first.nd rfl (.inl rfl)) (pss_one (ps_if (pt_not (pt_val (g_call C_law_held (hr.mono (by decide)) rfl (pa_cons (pv 1) (pa_cons (pv 2) pa_nil))))) (pss_one (ps_ret (pv 2))) pss_nil))) (pss_one (ps_ret pe_non)))) (fun vs H Q E h => rd_law_within_first h)
abbrev st_Lattice_width : Stmt := inClass (top 35) 1
theorem sc_Lattice_width : FnScope ["self"] ["self"] (defScope st_Lattice_width) := ⟨rfl, rfl, rfl, by decide +kernel, rfl, by decide +kernel, by decide +kernel⟩
theorem ok_Lattice_width (LC : LatCls Z) (A : AtM Z.K (Z.cls "Lattice") "width" "Lattice.width" st_Lattice_width) : Met P w Z.K mg base (Z.cls "Lattice") 2 "width" (sp_Lattice_width Z) :=
  met_mk (k := 1) (t := r_Lattice_width Z) A sc_Lattice_width (fun _ _ _ _ => ln_Lattice_width) (fun _ _ _ _ _ _ us hl => match us, hl with | [_], _ => rfl) (fun f cdv A outer s H E hr => (pss_one (ps_ret (pe_fld (pv 0) rfl)))) (fun vs H Q E h => rd_Lattice_width LC h)
abbrev st_Lattice_rows : Stmt := inClass (top 35) 3
theorem sc_Lattice_rows : FnScope ["self", "row"] ["self"] (defScope st_Lattice_rows) := ⟨rfl, rfl, rfl, by decide +kernel, rfl, by decide +kernel, by decide +kernel⟩
theorem ok_Lattice_rows (T : Txt mg) (LC : LatCls Z) (A : AtM Z.K (Z.cls "Lattice") "rows" "Lattice.rows" st_Lattice_rows) : Met P w Z.K mg base (Z.cls "Lattice") 2 "rows" (sp_Lattice_rows Z) :=
  met_mk (k := 1) (t := r_Lattice_rows Z) A sc_Lattice_rows (fun _ _ _ _ => ln_Lattice_rows) (fun _ _ _ _ _ _ us hl => match us, hl with | [_], _ => rfl) (fun f cdv A outer s H E hr => (pss_one (ps_ret (pe_lc (own := [("row", 1)]) (by rfl) sc_Lattice_rows.nd (pi_list (pe_fld (pv 0) rfl)) (blkOk_by (own := [("row", 1)]) (N := nm_Lattice_rows) (sc := defScope st_Lattice_rows) (by decide +kernel)) (fun _ _ _ _ _ => (pg_name (i := 1) sc_Lattice_rows.nd rfl (Or.inl rfl))) (fun _ _ _ _ _ => pts_nil) (fun _ _ _ _ _ => (pe_callTy (T := "list") c_list (by rfl) T.b_list (by decide +kernel) (pa_cons (pv 1) pa_nil))))))) (fun vs H Q E h => rd_Lattice_rows LC h)
abbrev st_Lattice_rank : Stmt := inClass (top 35) 4
theorem sc_Lattice_rank : FnScope ["self"] ["self"] (defScope st_Lattice_rank) := ⟨rfl, rfl, rfl, by decide +kernel, rfl, by decide +kernel, by decide +kernel⟩
theorem ok_Lattice_rank (T : Txt mg) (LC : LatCls Z) (A : AtM Z.K (Z.cls "Lattice") "rank" "Lattice.rank" st_Lattice_rank) : Met P w Z.K mg base (Z.cls "Lattice") 2 "rank" (sp_Lattice_rank Z) :=
  met_mk (k := 1) (t := r_Lattice_rank Z) A sc_Lattice_rank (fun _ _ _ _ => ln_Lattice_rank) (fun _ _ _ _ _ _ us hl => match us, hl with | [_], _ => rfl) (fun f cdv A outer s H E hr => (pss_one (ps_ret (pe_callB (id := "len") c_len (by rfl) T.b_len (by decide +kernel) (pa_cons (pe_fld (pv 0) rfl) pa_nil))))) (fun vs H Q E h => rd_Lattice_rank LC h)
abbrev st_law_is_lattice : Stmt := top 68
theorem sc_law_is_lattice : FnScope ["box", "width", "stairs"] ["box", "width", "stairs"] (defScope st_law_is_lattice) := ⟨rfl, rfl, rfl, by decide +kernel, rfl, by decide +kernel, by decide +kernel⟩
theorem ok_law_is_lattice (T : Txt mg) (K_Lattice : Cls Z.K (Z.cls "Lattice")) (M_Lattice_width : Met P w Z.K mg base (Z.cls "Lattice") 2 "width" (sp_Lattice_width Z)) (M_Lattice_rows : Met P w Z.K mg base (Z.cls "Lattice") 2 "rows" (sp_Lattice_rows Z)) (M_Lattice_rank : Met P w Z.K mg base (Z.cls "Lattice") 2 "rank" (sp_Lattice_rank Z)) (A : At Z.K mg "_law_is_lattice" st_law_is_lattice) : Cal P w Z.K mg base 3 "_law_is_lattice" (sp_law_is_lattice Z) :=
  cal_mk (k := 2) (t := r_law_is_lattice Z) A sc_law_is_lattice (fun _ _ _ _ => ln_law_is_lattice) (fun _ _ _ _ _ _ us hl => match us, hl with | [_, _, _], _ => rfl) (fun f cdv A outer s H E hr => (pss_one (ps_ret (pe_and (pe_cmpR op_eq (g_meth0 (pv 0) K_Lattice M_Lattice_width (hr.mono (by decide))) (pv 1) (nomark _)) (pe_and (pe_cmpR (op_eqD hr.units) (g_meth0 (pv 0) K_Lattice M_Lattice_rows (hr.mono (by decide))) (pv 2) (nomark _)) (pe_one (pe_cmpR op_eq (g_meth0 (pv 0) K_Lattice M_Lattice_rank (hr.mono (by decide))) (pe_callB (id := "len") c_len (by rfl) T.b_len (by decide +kernel) (pa_cons (pv 2) pa_nil)) (nomark _)))))))) (fun vs H Q E h => rd_law_is_lattice h)
abbrev st_check_width : Stmt := top 38
theorem sc_check_width : FnScope ["lattice", "other"] ["lattice", "other"] (defScope st_check_width) := ⟨rfl, rfl, rfl, by decide +kernel, rfl, by decide +kernel, by decide +kernel⟩
theorem ok_check_width (LC : LatCls Z) (A : At Z.K mg "check_width" st_check_width) : Cal P w Z.K mg base 2 "check_width" (sp_check_width Z) :=
  cal_mk (k := 1) (t := r_check_width Z) A sc_check_width (fun _ _ _ _ => ln_check_width) (fun _ _ _ _ _ _ us hl => match us, hl with | [_, _], _ => rfl) (fun f cdv A outer s H E hr => (pss_one (ps_if (pt_cmpR op_ne (pe_fld (pv 0) rfl) (pe_fld (pv 1) rfl) (nomark _)) (pss_one ps_never) pss_nil))) (fun vs H Q E h => rd_check_width LC h)
abbrev st_is_zero : Stmt := top 20
theorem sc_is_zero : FnScope ["row", "value"] ["row"] (defScope st_is_zero) := ⟨rfl, rfl, rfl, by decide +kernel, rfl, by decide +kernel, by decide +kernel⟩
theorem ok_is_zero  (A : At Z.K mg "is_zero" st_is_zero) : Cal P w Z.K mg base 2 "is_zero" (sp_is_zero Z) :=
  cal_mk (k := 1) (t := r_is_zero Z) A sc_is_zero (fun _ _ _ _ => ln_is_zero) (fun _ _ _ _ _ _ us hl => match us, hl with | [_], _ => rfl) (fun f cdv A outer s H E hr => (pss_cons (ps_for PassesOwn.never rfl (pi_list (pv 0)) (pg_name (i := 1) sc_is_zero.nd rfl (.inl rfl)) (pss_one (ps_if (pt_cmpR op_ne (pv 1) pe_int (nomark _)) (pss_one (ps_ret pe_bl)) pss_nil))) (pss_one (ps_ret pe_bl)))) (fun vs H Q E h => rd_is_zero h)
abbrev st_lead_place : Stmt := top 27
theorem sc_lead_place : FnScope ["row", "place"] ["row"] (defScope st_lead_place) := ⟨rfl, rfl, rfl, by decide +kernel, rfl, by decide +kernel, by decide +kernel⟩
theorem ok_lead_place (T : Txt mg) (A : At Z.K mg "lead_place" st_lead_place) : Cal P w Z.K mg base 2 "lead_place" (sp_lead_place Z) :=
  cal_mk (k := 1) (t := r_lead_place Z) A sc_lead_place (fun _ _ _ _ => ln_lead_place) (fun _ _ _ _ _ _ us hl => match us, hl with | [_], _ => rfl) (fun f cdv A outer s H E hr => (pss_cons (ps_for PassesOwn.never rfl (pi_range1 rfl T.b_range (pa_cons (pe_callB (id := "len") c_len (by rfl) T.b_len (by decide +kernel) (pa_cons (pv 0) pa_nil)) pa_nil)) (pg_name (i := 1) sc_lead_place.nd rfl (.inl rfl)) (pss_one (ps_if (pt_cmpR op_ne (pe_ix x_ix (pv 0) (pv 1) (fun _ _ => rfl)) pe_int (nomark _)) (pss_one (ps_ret (pv 1))) pss_nil))) (pss_one (ps_ret pe_non)))) (fun vs H Q E h => rd_lead_place h)
abbrev st_lessened_row : Stmt := top 19
theorem sc_lessened_row : FnScope ["row", "number", "other", "at"] ["row", "number", "other"] (defScope st_lessened_row) := ⟨rfl, rfl, rfl, by decide +kernel, rfl, by decide +kernel, by decide +kernel⟩
theorem ok_lessened_row (T : Txt mg) (A : At Z.K mg "lessened_row" st_lessened_row) : Cal P w Z.K mg base 2 "lessened_row" (sp_lessened_row Z) :=
  cal_mk (k := 1) (t := r_lessened_row Z) A sc_lessened_row (fun _ _ _ _ => ln_lessened_row) (fun _ _ _ _ _ _ us hl => match us, hl with | [_, _, _], _ => rfl) (fun f cdv A outer s H E hr => (pss_one (ps_ret (pe_lc (own := [("at", 3)]) (by rfl) sc_lessened_row.nd (pi_range1 rfl T.b_range (pa_cons (pe_callB (id := "len") c_len (by rfl) T.b_len (by decide +kernel) (pa_cons (pv 0) pa_nil)) pa_nil)) (blkOk_by (own := [("at", 3)]) (N := nm_lessened_row) (sc := defScope st_lessened_row) (by decide +kernel)) (fun _ _ _ _ _ => (pg_name (i := 3) sc_lessened_row.nd rfl (Or.inl rfl))) (fun _ _ _ _ _ => pts_nil) (fun _ _ _ _ _ => (pe_op op_sub (pe_ix x_ix (pv 0) (pv 3) (fun _ _ => rfl)) (pe_op op_mulG (pv 1) (pe_ix x_ix (pv 2) (pv 3) (fun _ _ => rfl))))))))) (fun vs H Q E h => rd_lessened_row h)
abbrev st_reduced_row : Stmt := top 28
theorem sc_reduced_row : FnScope ["stairs", "row", "left", "stair", "place"] ["stairs", "row"] (defScope st_reduced_row) := ⟨rfl, rfl, rfl, by decide +kernel, rfl, by decide +kernel, by decide +kernel⟩
theorem ok_reduced_row (T : Txt mg) (hs : base.NoSeer) (ht : P.given.tree = none) (C_lead_place : Cal P w Z.K mg base 2 "lead_place" (sp_lead_place Z)) (C_lessened_row : Cal P w Z.K mg base 2 "lessened_row" (sp_lessened_row Z)) (A : At Z.K mg "reduced_row" st_reduced_row) : Cal P w Z.K mg base 33 "reduced_row" (sp_reduced_row Z) :=
  cal_mk (k := 32) (t := r_reduced_row Z) A sc_reduced_row (fun _ _ _ _ => ln_reduced_row) (fun _ _ _ _ _ _ us hl => match us, hl with | [_, _], _ => rfl) (fun f cdv A outer s H E hr => (pss_cons (ps_set (i := 2) sc_reduced_row.nd rfl (.inl rfl) (pe_callTy (T := "list") c_list (by rfl) T.b_list (by decide +kernel) (pa_cons (pv 1) pa_nil))) (pss_cons (ps_for PassesOwn.never rfl (pi_list (pv 0)) (pg_name (i := 3) sc_reduced_row.nd rfl (.inl rfl)) (pss_cons (ps_set (i := 4) sc_reduced_row.nd rfl (.inl rfl) (g_call C_lead_place (hr.mono (by decide)) rfl (pa_cons (pv 3) pa_nil))) (pss_one (ps_if (pt_cmpR op_ne (pe_ix x_ix (pv 2) (pv 4) (fun _ _ => rfl)) pe_int (nomark _)) (pss_one (ps_set (i := 2) sc_reduced_row.nd rfl (.inl rfl) (g_call C_lessened_row (hr.mono (by decide)) rfl (pa_cons (pv 2) (pa_cons (pe_op (op_fdivG ⟨hs, ht, ⟨_, outer, rfl, sc_reduced_row.gen, sc_reduced_row.co, rfl, rfl⟩, depth_of hr (by decide)⟩) (pe_ix x_ix (pv 2) (pv 4) (fun _ _ => rfl)) (pe_ix x_ix (pv 3) (pv 4) (fun _ _ => rfl))) (pa_cons (pv 3) pa_nil)))))) pss_nil)))) (pss_one (ps_ret (pv 2)))))) (fun vs H Q E h => rd_reduced_row h)
abbrev st_is_held : Stmt := top 40
theorem sc_is_held : FnScope ["lattice", "row"] ["lattice", "row"] (defScope st_is_held) := ⟨rfl, rfl, rfl, by decide +kernel, rfl, by decide +kernel, by decide +kernel⟩
theorem ok_is_held (C_is_zero : Cal P w Z.K mg base 2 "is_zero" (sp_is_zero Z)) (C_reduced_row : Cal P w Z.K mg base 33 "reduced_row" (sp_reduced_row Z)) (LC : LatCls Z) (A : At Z.K mg "is_held" st_is_held) : Cal P w Z.K mg base 34 "is_held" (sp_is_held Z) :=
  cal_mk (k := 33) (t := r_is_held Z) A sc_is_held (fun _ _ _ _ => ln_is_held) (fun _ _ _ _ _ _ us hl => match us, hl with | [_, _], _ => rfl) (fun f cdv A outer s H E hr => (pss_one (ps_ret (g_call C_is_zero (hr.mono (by decide)) rfl (pa_cons (g_call C_reduced_row (hr.mono (by decide)) rfl (pa_cons (pe_fld (pv 0) rfl) (pa_cons (pv 1) pa_nil))) pa_nil))))) (fun vs H Q E h => rd_is_held LC h)
abbrev st_Lattice_within : Stmt := inClass (top 35) 8
theorem sc_Lattice_within : FnScope ["self", "other", "row"] ["self", "other"] (defScope st_Lattice_within) := ⟨rfl, rfl, rfl, by decide +kernel, rfl, by decide +kernel, by decide +kernel⟩
theorem ok_Lattice_within (T : Txt mg) (C_check_width : Cal P w Z.K mg base 2 "check_width" (sp_check_width Z)) (C_is_held : Cal P w Z.K mg base 34 "is_held" (sp_is_held Z)) (LC : LatCls Z) (A : AtM Z.K (Z.cls "Lattice") "within" "Lattice.within" st_Lattice_within) : Met P w Z.K mg base (Z.cls "Lattice") 35 "within" (sp_Lattice_within Z) :=
  met_mk (k := 34) (t := r_Lattice_within Z) A sc_Lattice_within (fun _ _ _ _ => ln_Lattice_within) (fun _ _ _ _ _ _ us hl => match us, hl with | [_, _], _ => rfl) (fun f cdv A outer s H E hr => (pss_cons (ps_expr (g_call C_check_width (hr.mono (by decide)) rfl (pa_cons (pv 0) (pa_cons (pv 1) pa_nil)))) (pss_cons (ps_for PassesOwn.never rfl (pi_list (pe_fld (pv 0) rfl)) (pg_name (i := 2) sc_Lattice_within.nd rfl (.inl rfl)) (pss_one (ps_if (pt_not (pt_val (g_call C_is_held (hr.mono (by decide)) rfl (pa_cons (pv 1) (pa_cons (pv 2) pa_nil))))) (pss_one (ps_ret (pe_callTy (T := "list") c_list (by rfl) T.b_list (by decide +kernel) (pa_cons (pv 2) pa_nil)))) pss_nil))) (pss_one (ps_ret pe_non))))) (fun vs H Q E h => rd_Lattice_within LC h)
abbrev st_Lattice_same : Stmt := inClass (top 35) 9
theorem sc_Lattice_same : FnScope ["self", "other"] ["self", "other"] (defScope st_Lattice_same) := ⟨rfl, rfl, rfl, by decide +kernel, rfl, by decide +kernel, by decide +kernel⟩
theorem ok_Lattice_same (C_check_width : Cal P w Z.K mg base 2 "check_width" (sp_check_width Z)) (LC : LatCls Z) (A : AtM Z.K (Z.cls "Lattice") "same" "Lattice.same" st_Lattice_same) : Met P w Z.K mg base (Z.cls "Lattice") 3 "same" (sp_Lattice_same Z) :=
  met_mk (k := 2) (t := r_Lattice_same Z) A sc_Lattice_same (fun _ _ _ _ => ln_Lattice_same) (fun _ _ _ _ _ _ us hl => match us, hl with | [_, _], _ => rfl) (fun f cdv A outer s H E hr => (pss_cons (ps_expr (g_call C_check_width (hr.mono (by decide)) rfl (pa_cons (pv 0) (pa_cons (pv 1) pa_nil)))) (pss_one (ps_ret (pe_cmpR (op_eqD hr.units) (pe_fld (pv 0) rfl) (pe_fld (pv 1) rfl) (nomark _)))))) (fun vs H Q E h => rd_Lattice_same LC h)
abbrev st_least_busy : Stmt := top 23
theorem sc_least_busy : FnScope ["rows", "place", "best", "number", "value"] ["rows", "place"] (defScope st_least_busy) := ⟨rfl, rfl, rfl, by decide +kernel, rfl, by decide +kernel, by decide +kernel⟩
theorem ok_least_busy (T : Txt mg) (A : At Z.K mg "least_busy" st_least_busy) : Cal P w Z.K mg base 2 "least_busy" (sp_least_busy Z) :=
  cal_mk (k := 1) (t := r_least_busy Z) A sc_least_busy (fun _ _ _ _ => ln_least_busy) (fun _ _ _ _ _ _ us hl => match us, hl with | [_, _], _ => rfl) (fun f cdv A outer s H E hr => (pss_cons (ps_set (i := 2) sc_least_busy.nd rfl (.inl rfl) pe_non) (pss_cons (ps_for PassesOwn.never rfl (pi_range1 rfl T.b_range (pa_cons (pe_callB (id := "len") c_len (by rfl) T.b_len (by decide +kernel) (pa_cons (pv 0) pa_nil)) pa_nil)) (pg_name (i := 3) sc_least_busy.nd rfl (.inl rfl)) (pss_cons (ps_set (i := 4) sc_least_busy.nd rfl (.inl rfl) (pe_callB (id := "abs") c_abs (by rfl) T.b_abs (by decide +kernel) (pa_cons (pe_ix x_ix (pe_ix x_ix (pv 0) (pv 3) (fun _ _ => rfl)) (pv 1) (fun _ _ => rfl)) pa_nil))) (pss_one (ps_if (PW.pt (pw_and (pt_cmpR op_ne (pv 4) pe_int (nomark _)) (pw_and1 (PW.pt (pw_or (pt_cmpR o_isN (pv 2) pe_non (nomark _)) (pw_or1 (pt_cmpR op_lt (pv 4) (pe_callB (id := "abs") c_abs (by rfl) T.b_abs (by decide +kernel) (pa_cons (pe_ix x_ix (pe_ix x_ix (pv 0) (pv 2) (fun _ _ => rfl)) (pv 1) (fun _ _ => rfl)) pa_nil)) (nomark _)))))))) (pss_one (ps_set (i := 2) sc_least_busy.nd rfl (.inl rfl) (pv 3))) pss_nil)))) (pss_one (ps_ret (pv 2)))))) (fun vs H Q E h => rd_least_busy h)
abbrev st_scaled_row : Stmt := top 17
theorem sc_scaled_row : FnScope ["number", "row", "value"] ["number", "row"] (defScope st_scaled_row) := ⟨rfl, rfl, rfl, by decide +kernel, rfl, by decide +kernel, by decide +kernel⟩
theorem ok_scaled_row  (A : At Z.K mg "scaled_row" st_scaled_row) : Cal P w Z.K mg base 2 "scaled_row" (sp_scaled_row Z) :=
  cal_mk (k := 1) (t := r_scaled_row Z) A sc_scaled_row (fun _ _ _ _ => ln_scaled_row) (fun _ _ _ _ _ _ us hl => match us, hl with | [_, _], _ => rfl) (fun f cdv A outer s H E hr => (pss_one (ps_ret (pe_lc (own := [("value", 2)]) (by rfl) sc_scaled_row.nd (pi_list (pv 1)) (blkOk_by (own := [("value", 2)]) (N := nm_scaled_row) (sc := defScope st_scaled_row) (by decide +kernel)) (fun _ _ _ _ _ => (pg_name (i := 2) sc_scaled_row.nd rfl (Or.inl rfl))) (fun _ _ _ _ _ => pts_nil) (fun _ _ _ _ _ => (pe_op op_mulG (pv 0) (pv 2))))))) (fun vs H Q E h => rd_scaled_row h)
abbrev st_pulled_row : Stmt := top 24
theorem sc_pulled_row : FnScope ["rows", "place", "best", "lead", "busy", "number"] ["rows", "place"] (defScope st_pulled_row) := ⟨rfl, rfl, rfl, by decide +kernel, rfl, by decide +kernel, by decide +kernel⟩
theorem ok_pulled_row (T : Txt mg) (hs : base.NoSeer) (ht : P.given.tree = none) (C_least_busy : Cal P w Z.K mg base 2 "least_busy" (sp_least_busy Z)) (C_lessened_row : Cal P w Z.K mg base 2 "lessened_row" (sp_lessened_row Z)) (C_scaled_row : Cal P w Z.K mg base 2 "scaled_row" (sp_scaled_row Z)) (A : At Z.K mg "pulled_row" st_pulled_row) : Cal P w Z.K mg base 33 "pulled_row" (sp_pulled_row Z) :=
  cal_mk (k := 32) (t := r_pulled_row Z) A sc_pulled_row (fun _ _ _ _ => ln_pulled_row) (fun _ _ _ _ _ _ us hl => match us, hl with | [_, _], _ => rfl) (fun f cdv A outer s H E hr => (pss_one (ps_while PassesOwn.never (pt_val pe_bl) (pss_cons (ps_set (i := 2) sc_pulled_row.nd rfl (.inl rfl) (g_call C_least_busy (hr.mono (by decide)) rfl (pa_cons (pv 0) (pa_cons (pv 1) pa_nil)))) (pss_cons (ps_if (pt_cmpR o_isN (pv 2) pe_non (nomark _)) (pss_one (ps_ret pe_non)) pss_nil) (pss_cons (ps_set (i := 3) sc_pulled_row.nd rfl (.inl rfl) (pe_ix x_ix (pv 0) (pv 2) (fun _ _ => rfl))) (pss_cons (ps_set (i := 4) sc_pulled_row.nd rfl (.inl rfl) pe_int) (pss_cons (ps_for PassesOwn.never rfl (pi_range1 rfl T.b_range (pa_cons (pe_callB (id := "len") c_len (by rfl) T.b_len (by decide +kernel) (pa_cons (pv 0) pa_nil)) pa_nil)) (pg_name (i := 5) sc_pulled_row.nd rfl (.inl rfl)) (pss_one (ps_if (PW.pt (pw_and (pt_cmpR op_ne (pv 5) (pv 2) (nomark _)) (pw_and1 (pt_cmpR op_ne (pe_ix x_ix (pe_ix x_ix (pv 0) (pv 5) (fun _ _ => rfl)) (pv 1) (fun _ _ => rfl)) pe_int (nomark _))))) (pss_cons (ps_asg (g_call C_lessened_row (hr.mono (by decide)) rfl (pa_cons (pe_ix x_ix (pv 0) (pv 5) (fun _ _ => rfl)) (pa_cons (pe_op (op_fdivG ⟨hs, ht, ⟨_, outer, rfl, sc_pulled_row.gen, sc_pulled_row.co, rfl, rfl⟩, depth_of hr (by decide)⟩) (pe_ix x_ix (pe_ix x_ix (pv 0) (pv 5) (fun _ _ => rfl)) (pv 1) (fun _ _ => rfl)) (pe_ix x_ix (pv 3) (pv 1) (fun _ _ => rfl))) (pa_cons (pv 3) pa_nil)))) (pg_sub (pv 0) (pv 5) z_set)) (pss_one (ps_if (pt_cmpR op_ne (pe_ix x_ix (pe_ix x_ix (pv 0) (pv 5) (fun _ _ => rfl)) (pv 1) (fun _ _ => rfl)) pe_int (nomark _)) (pss_one (ps_aug (i := 4) sc_pulled_row.nd rfl (.inl rfl) pe_int ip_add)) pss_nil))) pss_nil))) (pss_one (ps_if (pt_cmpR op_eq (pv 4) pe_int (nomark _)) (pss_cons (ps_expr (pe_bm PySem.F.plainAttrs_list PySem.F.slot_list_pop PySem.F.type_list_pop mt_popAt (pv 0) (pa_cons (pv 2) pa_nil))) (pss_one (ps_ret (pe_ifExp (pt_cmpR op_gt (pe_ix x_ix (pv 3) (pv 1) (fun _ _ => rfl)) pe_int (nomark _)) (pv 3) (g_call C_scaled_row (hr.mono (by decide)) rfl (pa_cons (pe_un un_neg pe_int) (pa_cons (pv 3) pa_nil))))))) pss_nil)))))))))) (fun vs H Q E h => rd_pulled_row h)
abbrev st_stairs_and_rest : Stmt := top 25
theorem sc_stairs_and_rest : FnScope ["rows", "width", "left", "row", "stairs", "place", "lead"] ["rows", "width"] (defScope st_stairs_and_rest) := ⟨rfl, rfl, rfl, by decide +kernel, rfl, by decide +kernel, by decide +kernel⟩
theorem ok_stairs_and_rest (T : Txt mg) (hs : base.NoSeer) (ht : P.given.tree = none) (C_pulled_row : Cal P w Z.K mg base 33 "pulled_row" (sp_pulled_row Z)) (C_lessened_row : Cal P w Z.K mg base 2 "lessened_row" (sp_lessened_row Z)) (A : At Z.K mg "stairs_and_rest" st_stairs_and_rest) : Cal P w Z.K mg base 34 "stairs_and_rest" (sp_stairs_and_rest Z) :=
  cal_mk (k := 33) (t := r_stairs_and_rest Z) A sc_stairs_and_rest (fun _ _ _ _ => ln_stairs_and_rest) (fun _ _ _ _ _ _ us hl => match us, hl with | [_, _], _ => rfl) (fun f cdv A outer s H E hr => (pss_cons (ps_setLc (i := 2) (own := [("row", 3)]) (by rfl) sc_stairs_and_rest.nd rfl rfl (sw_true rfl rfl rfl (by decide +kernel)) (pi_list (pv 0)) (blkOk_by (own := [("row", 3)]) (N := nm_stairs_and_rest) (sc := defScope st_stairs_and_rest) (by decide +kernel)) (fun _ _ _ _ _ => (pg_name (i := 3) sc_stairs_and_rest.nd rfl (Or.inl rfl))) (fun _ _ _ _ _ => pts_nil) (fun _ _ _ _ _ => (pe_callTy (T := "list") c_list (by rfl) T.b_list (by decide +kernel) (pa_cons (pv 3) pa_nil)))) (pss_cons (ps_set (i := 4) sc_stairs_and_rest.nd rfl (.inl rfl) (pe_lst pa_nil)) (pss_cons (ps_for PassesOwn.never rfl (pi_range1 rfl T.b_range (pa_cons (pv 1) pa_nil)) (pg_name (i := 5) sc_stairs_and_rest.nd rfl (.inr rfl)) (pss_cons (ps_set (i := 6) sc_stairs_and_rest.nd rfl (.inr rfl) (g_call C_pulled_row (hr.mono (by decide)) rfl (pa_cons (pv 2) (pa_cons (pv 5) pa_nil)))) (pss_one (ps_if (pt_cmpR o_notN (pv 6) pe_non (nomark _)) (pss_cons (ps_setLc (i := 4) (own := [("row", 3)]) (by rfl) sc_stairs_and_rest.nd rfl rfl (sw_true rfl rfl rfl (by decide +kernel)) (pi_list (pv 4)) (blkOk_by (own := [("row", 3)]) (N := nm_stairs_and_rest) (sc := defScope st_stairs_and_rest) (by decide +kernel)) (fun _ _ _ _ _ => (pg_name (i := 3) sc_stairs_and_rest.nd rfl (Or.inl rfl))) (fun _ _ _ _ _ => pts_nil) (fun _ _ _ _ _ => (g_call C_lessened_row (hr.mono (by decide)) rfl (pa_cons (pv 3) (pa_cons (pe_op (op_fdivG ⟨hs, ht, ⟨_, outer, rfl, sc_stairs_and_rest.gen, sc_stairs_and_rest.co, rfl, rfl⟩, depth_of hr (by decide)⟩) (pe_ix x_ix (pv 3) (pv 5) (fun _ _ => rfl)) (pe_ix x_ix (pv 6) (pv 5) (fun _ _ => rfl))) (pa_cons (pv 6) pa_nil)))))) (pss_one (ps_expr (pe_bm PySem.F.plainAttrs_list PySem.F.slot_list_append PySem.F.type_list_append mt_append (pv 4) (pa_cons (pv 6) pa_nil))))) pss_nil)))) (pss_one (ps_ret (pe_tup (pa_cons (pv 4) (pa_cons (pv 2) pa_nil))))))))) (fun vs H Q E h => rd_stairs_and_rest h)
abbrev st_stairs_of : Stmt := top 26
theorem sc_stairs_of : FnScope ["rows", "width"] ["rows", "width"] (defScope st_stairs_of) := ⟨rfl, rfl, rfl, by decide +kernel, rfl, by decide +kernel, by decide +kernel⟩
theorem ok_stairs_of (C_stairs_and_rest : Cal P w Z.K mg base 34 "stairs_and_rest" (sp_stairs_and_rest Z)) (A : At Z.K mg "stairs_of" st_stairs_of) : Cal P w Z.K mg base 35 "stairs_of" (sp_stairs_of Z) :=
  cal_mk (k := 34) (t := r_stairs_of Z) A sc_stairs_of (fun _ _ _ _ => ln_stairs_of) (fun _ _ _ _ _ _ us hl => match us, hl with | [_, _], _ => rfl) (fun f cdv A outer s H E hr => (pss_one (ps_ret (pe_ix x_ixT (g_call C_stairs_and_rest (hr.mono (by decide)) rfl (pa_cons (pv 0) (pa_cons (pv 1) pa_nil))) pe_int (fun _ _ => rfl))))) (fun vs H Q E h => rd_stairs_of h)
abbrev st_check_most : Stmt := top 10
theorem sc_check_most : FnScope ["what", "many", "most"] ["what", "many", "most"] (defScope st_check_most) := ⟨rfl, rfl, rfl, by decide +kernel, rfl, by decide +kernel, by decide +kernel⟩
theorem ok_check_most (T : Txt mg) (A : At Z.K mg "check_most" st_check_most) : Cal P w Z.K mg base 2 "check_most" (sp_check_most Z) :=
  cal_mk (k := 1) (t := r_check_most Z) A sc_check_most (fun _ _ _ _ => ln_check_most) (fun _ _ _ _ _ _ us hl => match us, hl with | [_, _, _], _ => rfl) (fun f cdv A outer s H E hr => (pss_one (ps_if (PW.pt (pw_and (pt_val (pe_callB (id := "isinstance") call_isi (by rfl) T.b_isinstance (by decide +kernel) (pa_cons (pv 1) (pa_cons (pe_bltn (v := .ty "int") rfl T.b_int (by decide +kernel) rfl) pa_nil)))) (pw_and (pt_not (pt_val (pe_callB (id := "isinstance") call_isi (by rfl) T.b_isinstance (by decide +kernel) (pa_cons (pv 1) (pa_cons (pe_bltn (v := .ty "bool") rfl T.b_bool (by decide +kernel) rfl) pa_nil))))) (pw_and1 (pt_cmpR op_gt (pv 1) (pv 2) (nomark _)))))) (pss_one ps_never) pss_nil))) (fun vs H Q E h => rd_check_most h)
abbrev st_check_numbers : Stmt := top 11
theorem sc_check_numbers : FnScope ["numbers", "most", "number"] ["numbers", "most"] (defScope st_check_numbers) := ⟨rfl, rfl, rfl, by decide +kernel, rfl, by decide +kernel, by decide +kernel⟩
theorem ok_check_numbers (T : Txt mg) (A : At Z.K mg "check_numbers" st_check_numbers) : Cal P w Z.K mg base 2 "check_numbers" (sp_check_numbers Z) :=
  cal_mk (k := 1) (t := r_check_numbers Z) A sc_check_numbers (fun _ _ _ _ => ln_check_numbers) (fun _ _ _ _ _ _ us hl => match us, hl with | [_, _], _ => rfl) (fun f cdv A outer s H E hr => (pss_one (ps_for PassesOwn.never rfl (pi_list (pv 0)) (pg_name (i := 2) sc_check_numbers.nd rfl (.inl rfl)) (pss_one (ps_if (PW.pt (pw_and (pt_val (pe_callB (id := "isinstance") call_isi (by rfl) T.b_isinstance (by decide +kernel) (pa_cons (pv 2) (pa_cons (pe_bltn (v := .ty "int") rfl T.b_int (by decide +kernel) rfl) pa_nil)))) (pw_and (pt_not (pt_val (pe_callB (id := "isinstance") call_isi (by rfl) T.b_isinstance (by decide +kernel) (pa_cons (pv 2) (pa_cons (pe_bltn (v := .ty "bool") rfl T.b_bool (by decide +kernel) rfl) pa_nil))))) (pw_and1 (pt_not (pt_chain op_le op_le (pe_un un_neg (pv 1)) (pv 2) (pv 1))))))) (pss_one ps_never) pss_nil))))) (fun vs H Q E h => rd_check_numbers h)
abbrev st_is_whole : Stmt := top 13
theorem sc_is_whole : FnScope ["value"] ["value"] (defScope st_is_whole) := ⟨rfl, rfl, rfl, by decide +kernel, rfl, by decide +kernel, by decide +kernel⟩
theorem ok_is_whole (T : Txt mg) (A : At Z.K mg "is_whole" st_is_whole) : Cal P w Z.K mg base 2 "is_whole" (sp_is_whole Z) :=
  cal_mk (k := 1) (t := r_is_whole Z) A sc_is_whole (fun _ _ _ _ => ln_is_whole) (fun _ _ _ _ _ _ us hl => match us, hl with | [_], _ => rfl) (fun f cdv A outer s H E hr => (pss_one (ps_ret (pe_and (pe_callB (id := "isinstance") call_isi (by rfl) T.b_isinstance (by decide +kernel) (pa_cons (pv 0) (pa_cons (pe_bltn (v := .ty "int") rfl T.b_int (by decide +kernel) rfl) pa_nil))) (pe_one (pe_not (pe_callB (id := "isinstance") call_isi (by rfl) T.b_isinstance (by decide +kernel) (pa_cons (pv 0) (pa_cons (pe_bltn (v := .ty "bool") rfl T.b_bool (by decide +kernel) rfl) pa_nil))))))))) (fun vs H Q E h => rd_is_whole h)
abbrev st_whole_list : Stmt := top 14
theorem sc_whole_list : FnScope ["value", "many", "one"] ["value", "many"] (defScope st_whole_list) := ⟨rfl, rfl, rfl, by decide +kernel, rfl, by decide +kernel, by decide +kernel⟩
theorem ok_whole_list (T : Txt mg) (C_is_whole : Cal P w Z.K mg base 2 "is_whole" (sp_is_whole Z)) (A : At Z.K mg "whole_list" st_whole_list) : Cal P w Z.K mg base 3 "whole_list" (sp_whole_list Z) :=
  cal_mk (k := 2) (t := r_whole_list Z) A sc_whole_list (fun _ _ _ _ => ln_whole_list) (fun _ _ _ _ _ _ us hl => match us, hl with | [_, _], _ => rfl) (fun f cdv A outer s H E hr => (pss_cons (ps_if (PW.pt (pw_or (pt_not (pt_val (pe_callB (id := "isinstance") call_isiT (by rfl) T.b_isinstance (by decide +kernel) (pa_cons (pv 0) (pa_cons (pe_tup (pa_cons (pe_bltn (v := .ty "list") rfl T.b_list (by decide +kernel) rfl) (pa_cons (pe_bltn (v := .ty "tuple") rfl T.b_tuple (by decide +kernel) rfl) pa_nil))) pa_nil))))) (pw_or1 (pt_cmpR op_ne (pe_callB (id := "len") c_len (by rfl) T.b_len (by decide +kernel) (pa_cons (pv 0) pa_nil)) (pv 1) (nomark _))))) (pss_one (ps_ret pe_bl)) pss_nil) (pss_one (ps_ret (pe_cmpR (op_eqD hr.units) (pe_lc (own := [("one", 2)]) (by rfl) sc_whole_list.nd (pi_list (pv 0)) (blkOk_by (own := [("one", 2)]) (N := nm_whole_list) (sc := defScope st_whole_list) (by decide +kernel)) (fun _ _ _ _ _ => (pg_name (i := 2) sc_whole_list.nd rfl (Or.inl rfl))) (fun _ _ _ _ _ => (pts_one (pt_not (pt_val (g_call C_is_whole (hr.mono (by decide)) rfl (pa_cons (pv 2) pa_nil)))))) (fun _ _ _ _ _ => (pv 2))) (pe_lst pa_nil) (nomark _)))))) (fun vs H Q E h => rd_whole_list h)
abbrev st_check_rows : Stmt := top 36
theorem sc_check_rows : FnScope ["rows", "width", "place"] ["rows", "width"] (defScope st_check_rows) := ⟨rfl, rfl, rfl, by decide +kernel, rfl, by decide +kernel, by decide +kernel⟩
theorem ok_check_rows (T : Txt mg) (C_whole_list : Cal P w Z.K mg base 3 "whole_list" (sp_whole_list Z)) (A : At Z.K mg "check_rows" st_check_rows) : Cal P w Z.K mg base 4 "check_rows" (sp_check_rows Z) :=
  cal_mk (k := 3) (t := r_check_rows Z) A sc_check_rows (fun _ _ _ _ => ln_check_rows) (fun _ _ _ _ _ _ us hl => match us, hl with | [_, _], _ => rfl) (fun f cdv A outer s H E hr => (pss_one (ps_for PassesOwn.never rfl (pi_range1 rfl T.b_range (pa_cons (pe_callB (id := "len") c_len (by rfl) T.b_len (by decide +kernel) (pa_cons (pv 0) pa_nil)) pa_nil)) (pg_name (i := 2) sc_check_rows.nd rfl (.inl rfl)) (pss_one (ps_if (pt_not (pt_val (g_call C_whole_list (hr.mono (by decide)) rfl (pa_cons (pe_ix x_ix (pv 0) (pv 2) (fun _ _ => rfl)) (pa_cons (pv 1) pa_nil))))) (pss_one ps_never) pss_nil))))) (fun vs H Q E h => rd_check_rows h)
abbrev st_Lattice___init__ : Stmt := inClass (top 35) 0
theorem sc_Lattice___init__ : FnScope ["self", "width", "rows", "row"] ["self", "width", "rows"] (defScope st_Lattice___init__) := ⟨rfl, rfl, rfl, by decide +kernel, rfl, by decide +kernel, by decide +kernel⟩
theorem ok_Lattice___init__ (T : Txt mg) (C_check_most : Cal P w Z.K mg base 2 "check_most" (sp_check_most Z)) (C_check_numbers : Cal P w Z.K mg base 2 "check_numbers" (sp_check_numbers Z)) (C_check_rows : Cal P w Z.K mg base 4 "check_rows" (sp_check_rows Z)) (C_stairs_of : Cal P w Z.K mg base 35 "stairs_of" (sp_stairs_of Z)) (LC : LatCls Z) (A : AtI Z.K mg (Z.cls "Lattice") "Lattice" "Lattice.__init__" st_Lattice___init__) : Mak P w Z.K mg base (Z.cls "Lattice") 36 "Lattice" (sp_Lattice___init__ Z) :=
  mak_mk (k := 35) (t := r_Lattice___init__ Z) A sc_Lattice___init__ (fun _ _ _ _ => ln_Lattice___init__) (fun _ _ _ _ _ _ us hl => match us, hl with | [_, _, _], _ => rfl) (fun f cdv A outer s H E hr => (pss_cons (ps_expr (g_call C_check_most (hr.mono (by decide)) rfl (pa_cons pe_str (pa_cons (pv 1) (pa_cons (g_int rfl T.g_BOOKS) pa_nil))))) (pss_cons (ps_expr (g_call C_check_most (hr.mono (by decide)) rfl (pa_cons pe_str (pa_cons (pe_callB (id := "len") c_len (by rfl) T.b_len (by decide +kernel) (pa_cons (pv 2) pa_nil)) (pa_cons (g_int rfl T.g_ROWS) pa_nil))))) (pss_cons (ps_for PassesOwn.never rfl (pi_list (pv 2)) (pg_name (i := 3) sc_Lattice___init__.nd rfl (.inl rfl)) (pss_one (ps_expr (g_call C_check_numbers (hr.mono (by decide)) rfl (pa_cons (pv 3) (pa_cons (g_int rfl T.g_NUMBERS) pa_nil)))))) (pss_cons (ps_expr (g_call C_check_rows (hr.mono (by decide)) rfl (pa_cons (pv 2) (pa_cons (pv 1) pa_nil)))) (pss_cons (ps_fld (pv 0) (pv 1) rfl) (pss_cons (ps_fld (pv 0) (pe_lc (own := [("row", 3)]) (by rfl) sc_Lattice___init__.nd (pi_list (pv 2)) (blkOk_by (own := [("row", 3)]) (N := nm_Lattice___init__) (sc := defScope st_Lattice___init__) (by decide +kernel)) (fun _ _ _ _ _ => (pg_name (i := 3) sc_Lattice___init__.nd rfl (Or.inl rfl))) (fun _ _ _ _ _ => pts_nil) (fun _ _ _ _ _ => (pe_callTy (T := "list") c_list (by rfl) T.b_list (by decide +kernel) (pa_cons (pv 3) pa_nil)))) rfl) (pss_cons (ps_fld (pv 0) (g_call C_stairs_of (hr.mono (by decide)) rfl (pa_cons (pv 2) (pa_cons (pv 1) pa_nil))) rfl) (pss_one (ps_fld (pv 0) pe_non rfl)))))))))) (fun vs H Q E h => rd_Lattice___init__ LC h)
abbrev st_lattice_of : Stmt := top 39
theorem sc_lattice_of : FnScope ["width", "rows", "made", "row"] ["width", "rows"] (defScope st_lattice_of) := ⟨rfl, rfl, rfl, by decide +kernel, rfl, by decide +kernel, by decide +kernel⟩
theorem ok_lattice_of (T : Txt mg) (C_stairs_of : Cal P w Z.K mg base 35 "stairs_of" (sp_stairs_of Z)) (M_Lattice : Mak P w Z.K mg base (Z.cls "Lattice") 36 "Lattice" (sp_Lattice___init__ Z)) (LC : LatCls Z) (A : At Z.K mg "lattice_of" st_lattice_of) : Cal P w Z.K mg base 38 "lattice_of" (sp_lattice_of Z) :=
  cal_mk (k := 37) (t := r_lattice_of Z) A sc_lattice_of (fun _ _ _ _ => ln_lattice_of) (fun _ _ _ _ _ _ us hl => match us, hl with | [_, _], _ => rfl) (fun f cdv A outer s H E hr => (pss_cons (ps_set (i := 2) sc_lattice_of.nd rfl (.inl rfl) (g_make M_Lattice (hr.mono (by decide)) rfl (pa_cons pe_int (pa_cons (pe_lst pa_nil) pa_nil)))) (pss_cons (ps_fld (pv 2) (pv 0) rfl) (pss_cons (ps_fld (pv 2) (pe_lc (own := [("row", 3)]) (by rfl) sc_lattice_of.nd (pi_list (pv 1)) (blkOk_by (own := [("row", 3)]) (N := nm_lattice_of) (sc := defScope st_lattice_of) (by decide +kernel)) (fun _ _ _ _ _ => (pg_name (i := 3) sc_lattice_of.nd rfl (Or.inl rfl))) (fun _ _ _ _ _ => pts_nil) (fun _ _ _ _ _ => (pe_callTy (T := "list") c_list (by rfl) T.b_list (by decide +kernel) (pa_cons (pv 3) pa_nil)))) rfl) (pss_cons (ps_fld (pv 2) (g_call C_stairs_of (hr.mono (by decide)) rfl (pa_cons (pv 1) (pa_cons (pv 0) pa_nil))) rfl) (pss_one (ps_ret (pv 2)))))))) (fun vs H Q E h => rd_lattice_of LC h)
abbrev st_Lattice_joined : Stmt := inClass (top 35) 7
theorem sc_Lattice_joined : FnScope ["self", "other"] ["self", "other"] (defScope st_Lattice_joined) := ⟨rfl, rfl, rfl, by decide +kernel, rfl, by decide +kernel, by decide +kernel⟩
theorem ok_Lattice_joined (C_check_width : Cal P w Z.K mg base 2 "check_width" (sp_check_width Z)) (C_lattice_of : Cal P w Z.K mg base 38 "lattice_of" (sp_lattice_of Z)) (LC : LatCls Z) (A : AtM Z.K (Z.cls "Lattice") "joined" "Lattice.joined" st_Lattice_joined) : Met P w Z.K mg base (Z.cls "Lattice") 39 "joined" (sp_Lattice_joined Z) :=
  met_mk (k := 38) (t := r_Lattice_joined Z) A sc_Lattice_joined (fun _ _ _ _ => ln_Lattice_joined) (fun _ _ _ _ _ _ us hl => match us, hl with | [_, _], _ => rfl) (fun f cdv A outer s H E hr => (pss_cons (ps_expr (g_call C_check_width (hr.mono (by decide)) rfl (pa_cons (pv 0) (pa_cons (pv 1) pa_nil)))) (pss_one (ps_ret (g_call C_lattice_of (hr.mono (by decide)) rfl (pa_cons (pe_fld (pv 0) rfl) (pa_cons (pe_op op_cat (pe_fld (pv 0) rfl) (pe_fld (pv 1) rfl)) pa_nil))))))) (fun vs H Q E h => rd_Lattice_joined LC h)
abbrev st_Lattice_given : Stmt := inClass (top 35) 2
theorem sc_Lattice_given : FnScope ["self", "row"] ["self"] (defScope st_Lattice_given) := ⟨rfl, rfl, rfl, by decide +kernel, rfl, by decide +kernel, by decide +kernel⟩
theorem ok_Lattice_given (T : Txt mg) (LC : LatCls Z) (A : AtM Z.K (Z.cls "Lattice") "given" "Lattice.given" st_Lattice_given) : Met P w Z.K mg base (Z.cls "Lattice") 2 "given" (sp_Lattice_given Z) :=
  met_mk (k := 1) (t := r_Lattice_given Z) A sc_Lattice_given (fun _ _ _ _ => ln_Lattice_given) (fun _ _ _ _ _ _ us hl => match us, hl with | [_], _ => rfl) (fun f cdv A outer s H E hr => (pss_one (ps_ret (pe_lc (own := [("row", 1)]) (by rfl) sc_Lattice_given.nd (pi_list (pe_fld (pv 0) rfl)) (blkOk_by (own := [("row", 1)]) (N := nm_Lattice_given) (sc := defScope st_Lattice_given) (by decide +kernel)) (fun _ _ _ _ _ => (pg_name (i := 1) sc_Lattice_given.nd rfl (Or.inl rfl))) (fun _ _ _ _ _ => pts_nil) (fun _ _ _ _ _ => (pe_callTy (T := "list") c_list (by rfl) T.b_list (by decide +kernel) (pa_cons (pv 1) pa_nil))))))) (fun vs H Q E h => rd_Lattice_given LC h)
abbrev st_law_two_alike : Stmt := top 69
theorem sc_law_two_alike : FnScope ["one", "other", "first", "second", "width", "mine", "yours", "told", "both"] ["one", "other", "first", "second", "width"] (defScope st_law_two_alike) := ⟨rfl, rfl, rfl, by decide +kernel, rfl, by decide +kernel, by decide +kernel⟩
theorem ok_law_two_alike (C_law_stairs : Cal P w Z.K mg base 35 "_law_stairs" (sp_law_stairs Z)) (C_law_within_first : Cal P w Z.K mg base 35 "_law_within_first" (sp_law_within_first Z)) (C_law_is_lattice : Cal P w Z.K mg base 3 "_law_is_lattice" (sp_law_is_lattice Z)) (K_Lattice : Cls Z.K (Z.cls "Lattice")) (M_Lattice_within : Met P w Z.K mg base (Z.cls "Lattice") 35 "within" (sp_Lattice_within Z)) (M_Lattice_same : Met P w Z.K mg base (Z.cls "Lattice") 3 "same" (sp_Lattice_same Z)) (M_Lattice_joined : Met P w Z.K mg base (Z.cls "Lattice") 39 "joined" (sp_Lattice_joined Z)) (M_Lattice_given : Met P w Z.K mg base (Z.cls "Lattice") 2 "given" (sp_Lattice_given Z)) (M_Lattice_rows : Met P w Z.K mg base (Z.cls "Lattice") 2 "rows" (sp_Lattice_rows Z)) (A : At Z.K mg "_law_two_alike" st_law_two_alike) : Cal P w Z.K mg base 40 "_law_two_alike" (sp_law_two_alike Z) :=
  cal_mk (k := 39) (t := r_law_two_alike Z) A sc_law_two_alike (fun _ _ _ _ => ln_law_two_alike) (fun _ _ _ _ _ _ us hl => match us, hl with | [_, _, _, _, _], _ => rfl) (fun f cdv A outer s H E hr => (pss_cons (ps_set (i := 5) sc_law_two_alike.nd rfl (.inl rfl) (g_call C_law_stairs (hr.mono (by decide)) rfl (pa_cons (pv 2) (pa_cons (pv 4) pa_nil)))) (pss_cons (ps_set (i := 6) sc_law_two_alike.nd rfl (.inl rfl) (g_call C_law_stairs (hr.mono (by decide)) rfl (pa_cons (pv 3) (pa_cons (pv 4) pa_nil)))) (pss_cons (ps_set (i := 7) sc_law_two_alike.nd rfl (.inl rfl) (g_meth (pv 0) K_Lattice M_Lattice_within (hr.mono (by decide)) (pa_cons (pv 1) pa_nil))) (pss_cons (ps_if (PW.pt (pw_or (pt_cmpR (op_neD hr.units) (pv 7) (g_call C_law_within_first (hr.mono (by decide)) rfl (pa_cons (pv 5) (pa_cons (pv 6) pa_nil))) (nomark _)) (pw_or1 (pt_cmpR op_ne (g_meth (pv 0) K_Lattice M_Lattice_same (hr.mono (by decide)) (pa_cons (pv 1) pa_nil)) (pe_cmpR (op_eqD hr.units) (pv 5) (pv 6) (nomark _)) (nomark _))))) (pss_one (ps_ret pe_bl)) pss_nil) (pss_cons (ps_if (pt_cmpR o_notN (pv 7) pe_non (nomark _)) (pss_one (ps_expr (pe_bm PySem.F.plainAttrs_list PySem.F.slot_list_append PySem.F.type_list_append mt_append (pv 7) (pa_cons pe_int pa_nil)))) pss_nil) (pss_cons (ps_set (i := 8) sc_law_two_alike.nd rfl (.inl rfl) (g_meth (pv 0) K_Lattice M_Lattice_joined (hr.mono (by decide)) (pa_cons (pv 1) pa_nil))) (pss_cons (ps_if (PW.pt (pw_or (pt_not (pt_val (g_call C_law_is_lattice (hr.mono (by decide)) rfl (pa_cons (pv 8) (pa_cons (pv 4) (pa_cons (g_call C_law_stairs (hr.mono (by decide)) rfl (pa_cons (pe_op op_cat (pv 2) (pv 3)) (pa_cons (pv 4) pa_nil))) pa_nil)))))) (pw_or1 (pt_cmpR (op_neD hr.units) (g_meth0 (pv 8) K_Lattice M_Lattice_given (hr.mono (by decide))) (pe_op op_cat (pv 2) (pv 3)) (nomark _))))) (pss_one (ps_ret pe_bl)) pss_nil) (pss_one (ps_ret (pe_and (pe_cmpR (op_eqD hr.units) (g_meth0 (pv 0) K_Lattice M_Lattice_rows (hr.mono (by decide))) (pv 5) (nomark _)) (pe_one (pe_cmpR (op_eqD hr.units) (g_meth0 (pv 1) K_Lattice M_Lattice_rows (hr.mono (by decide))) (pv 6) (nomark _)))))))))))))) (fun vs H Q E h => rd_law_two_alike h)
abbrev st_law_leads : Stmt := top 61
theorem sc_law_leads : FnScope ["stairs", "found", "row", "one"] ["stairs"] (defScope st_law_leads) := ⟨rfl, rfl, rfl, by decide +kernel, rfl, by decide +kernel, by decide +kernel⟩
theorem ok_law_leads  (A : At Z.K mg "_law_leads" st_law_leads) : Cal P w Z.K mg base 2 "_law_leads" (sp_law_leads Z) :=
  cal_mk (k := 1) (t := r_law_leads Z) A sc_law_leads (fun _ _ _ _ => ln_law_leads) (fun _ _ _ _ _ _ us hl => match us, hl with | [_], _ => rfl) (fun f cdv A outer s H E hr => (pss_cons (ps_set (i := 1) sc_law_leads.nd rfl (.inl rfl) pe_int) (pss_cons (ps_for PassesOwn.never rfl (pi_list (pv 0)) (pg_name (i := 2) sc_law_leads.nd rfl (.inl rfl)) (pss_one (ps_set (i := 1) sc_law_leads.nd rfl (.inl rfl) (pe_op op_mulG (pv 1) (pe_ix x_ix (pe_lc (own := [("one", 3)]) (by rfl) sc_law_leads.nd (pi_list (pv 2)) (blkOk_by (own := [("one", 3)]) (N := nm_law_leads) (sc := defScope st_law_leads) (by decide +kernel)) (fun _ _ _ _ _ => (pg_name (i := 3) sc_law_leads.nd rfl (Or.inl rfl))) (fun _ _ _ _ _ => (pts_one (pt_cmpR op_ne (pv 3) pe_int (nomark _)))) (fun _ _ _ _ _ => (pv 3))) pe_int (fun _ _ => rfl)))))) (pss_one (ps_ret (pv 1)))))) (fun vs H Q E h => rd_law_leads h)
abbrev st_law_index : Stmt := top 70
theorem sc_law_index : FnScope ["mine", "yours"] ["mine", "yours"] (defScope st_law_index) := ⟨rfl, rfl, rfl, by decide +kernel, rfl, by decide +kernel, by decide +kernel⟩
theorem ok_law_index (T : Txt mg) (hs : base.NoSeer) (ht : P.given.tree = none) (C_law_leads : Cal P w Z.K mg base 2 "_law_leads" (sp_law_leads Z)) (A : At Z.K mg "_law_index" st_law_index) : Cal P w Z.K mg base 33 "_law_index" (sp_law_index Z) :=
  cal_mk (k := 32) (t := r_law_index Z) A sc_law_index (fun _ _ _ _ => ln_law_index) (fun _ _ _ _ _ _ us hl => match us, hl with | [_, _], _ => rfl) (fun f cdv A outer s H E hr => (pss_cons (ps_if (pt_cmpR op_ne (pe_callB (id := "len") c_len (by rfl) T.b_len (by decide +kernel) (pa_cons (pv 0) pa_nil)) (pe_callB (id := "len") c_len (by rfl) T.b_len (by decide +kernel) (pa_cons (pv 1) pa_nil)) (nomark _)) (pss_one (ps_ret pe_int)) pss_nil) (pss_one (ps_ret (pe_op (op_fdivG ⟨hs, ht, ⟨_, outer, rfl, sc_law_index.gen, sc_law_index.co, rfl, rfl⟩, depth_of hr (by decide)⟩) (g_call C_law_leads (hr.mono (by decide)) rfl (pa_cons (pv 0) pa_nil)) (g_call C_law_leads (hr.mono (by decide)) rfl (pa_cons (pv 1) pa_nil))))))) (fun vs H Q E h => rd_law_index h)
abbrev st_stair_amounts : Stmt := top 29
theorem sc_stair_amounts : FnScope ["stairs", "row", "left", "amounts", "stair", "place"] ["stairs", "row"] (defScope st_stair_amounts) := ⟨rfl, rfl, rfl, by decide +kernel, rfl, by decide +kernel, by decide +kernel⟩
theorem ok_stair_amounts (T : Txt mg) (hs : base.NoSeer) (ht : P.given.tree = none) (C_lead_place : Cal P w Z.K mg base 2 "lead_place" (sp_lead_place Z)) (C_lessened_row : Cal P w Z.K mg base 2 "lessened_row" (sp_lessened_row Z)) (C_is_zero : Cal P w Z.K mg base 2 "is_zero" (sp_is_zero Z)) (A : At Z.K mg "stair_amounts" st_stair_amounts) : Cal P w Z.K mg base 33 "stair_amounts" (sp_stair_amounts Z) :=
  cal_mk (k := 32) (t := r_stair_amounts Z) A sc_stair_amounts (fun _ _ _ _ => ln_stair_amounts) (fun _ _ _ _ _ _ us hl => match us, hl with | [_, _], _ => rfl) (fun f cdv A outer s H E hr => (pss_cons (ps_set (i := 2) sc_stair_amounts.nd rfl (.inl rfl) (pe_callTy (T := "list") c_list (by rfl) T.b_list (by decide +kernel) (pa_cons (pv 1) pa_nil))) (pss_cons (ps_set (i := 3) sc_stair_amounts.nd rfl (.inl rfl) (pe_lst pa_nil)) (pss_cons (ps_for PassesOwn.never rfl (pi_list (pv 0)) (pg_name (i := 4) sc_stair_amounts.nd rfl (.inl rfl)) (pss_cons (ps_set (i := 5) sc_stair_amounts.nd rfl (.inl rfl) (g_call C_lead_place (hr.mono (by decide)) rfl (pa_cons (pv 4) pa_nil))) (pss_cons (ps_expr (pe_bm PySem.F.plainAttrs_list PySem.F.slot_list_append PySem.F.type_list_append mt_append (pv 3) (pa_cons (pe_op (op_fdivG ⟨hs, ht, ⟨_, outer, rfl, sc_stair_amounts.gen, sc_stair_amounts.co, rfl, rfl⟩, depth_of hr (by decide)⟩) (pe_ix x_ix (pv 2) (pv 5) (fun _ _ => rfl)) (pe_ix x_ix (pv 4) (pv 5) (fun _ _ => rfl))) pa_nil))) (pss_one (ps_set (i := 2) sc_stair_amounts.nd rfl (.inl rfl) (g_call C_lessened_row (hr.mono (by decide)) rfl (pa_cons (pv 2) (pa_cons (pe_ix ix_list (pv 3) (pe_un un_neg pe_int) (fun _ _ => rfl)) (pa_cons (pv 4) pa_nil))))))))) (pss_one (ps_ret (pe_ifExp (pt_val (g_call C_is_zero (hr.mono (by decide)) rfl (pa_cons (pv 2) pa_nil))) (pv 3) pe_non))))))) (fun vs H Q E h => rd_stair_amounts h)
abbrev st_Lattice_classes : Stmt := inClass (top 35) 15
theorem sc_Lattice_classes : FnScope ["self", "other", "steps", "row", "many", "place"] ["self", "other"] (defScope st_Lattice_classes) := ⟨rfl, rfl, rfl, by decide +kernel, rfl, by decide +kernel, by decide +kernel⟩
theorem ok_Lattice_classes (T : Txt mg) (C_stairs_of : Cal P w Z.K mg base 35 "stairs_of" (sp_stairs_of Z)) (C_stair_amounts : Cal P w Z.K mg base 33 "stair_amounts" (sp_stair_amounts Z)) (K_Lattice : Cls Z.K (Z.cls "Lattice")) (M_Lattice_within : Met P w Z.K mg base (Z.cls "Lattice") 35 "within" (sp_Lattice_within Z)) (M_Lattice_rank : Met P w Z.K mg base (Z.cls "Lattice") 2 "rank" (sp_Lattice_rank Z)) (LC : LatCls Z) (A : AtM Z.K (Z.cls "Lattice") "classes" "Lattice.classes" st_Lattice_classes) : Met P w Z.K mg base (Z.cls "Lattice") 36 "classes" (sp_Lattice_classes Z) :=
  met_mk (k := 35) (t := r_Lattice_classes Z) A sc_Lattice_classes (fun _ _ _ _ => ln_Lattice_classes) (fun _ _ _ _ _ _ us hl => match us, hl with | [_, _], _ => rfl) (fun f cdv A outer s H E hr => (pss_cons (ps_if (PW.pt (pw_or (pt_cmpR op_ne (pe_fld (pv 1) rfl) (pe_fld (pv 0) rfl) (nomark _)) (pw_or1 (pt_cmpR o_notN (g_meth (pv 0) K_Lattice M_Lattice_within (hr.mono (by decide)) (pa_cons (pv 1) pa_nil)) pe_non (nomark _))))) (pss_one ps_never) pss_nil) (pss_cons (ps_if (pt_cmpR op_ne (g_meth0 (pv 0) K_Lattice M_Lattice_rank (hr.mono (by decide))) (g_meth0 (pv 1) K_Lattice M_Lattice_rank (hr.mono (by decide))) (nomark _)) (pss_one (ps_ret pe_int)) pss_nil) (pss_cons (ps_set (i := 2) sc_Lattice_classes.nd rfl (.inl rfl) (g_call C_stairs_of (hr.mono (by decide)) rfl (pa_cons (pe_lc (own := [("row", 3)]) (by rfl) sc_Lattice_classes.nd (pi_list (pe_fld (pv 0) rfl)) (blkOk_by (own := [("row", 3)]) (N := nm_Lattice_classes) (sc := defScope st_Lattice_classes) (by decide +kernel)) (fun _ _ _ _ _ => (pg_name (i := 3) sc_Lattice_classes.nd rfl (Or.inl rfl))) (fun _ _ _ _ _ => pts_nil) (fun _ _ _ _ _ => (g_call C_stair_amounts (hr.mono (by decide)) rfl (pa_cons (pe_fld (pv 1) rfl) (pa_cons (pv 3) pa_nil))))) (pa_cons (g_meth0 (pv 0) K_Lattice M_Lattice_rank (hr.mono (by decide))) pa_nil)))) (pss_cons (ps_set (i := 4) sc_Lattice_classes.nd rfl (.inl rfl) pe_int) (pss_cons (ps_for PassesOwn.never rfl (pi_range1 rfl T.b_range (pa_cons (pe_callB (id := "len") c_len (by rfl) T.b_len (by decide +kernel) (pa_cons (pv 2) pa_nil)) pa_nil)) (pg_name (i := 5) sc_Lattice_classes.nd rfl (.inl rfl)) (pss_one (ps_aug (i := 4) sc_Lattice_classes.nd rfl (.inl rfl) (pe_ix x_ix (pe_ix x_ix (pv 2) (pv 5) (fun _ _ => rfl)) (pv 5) (fun _ _ => rfl)) ip_mulG))) (pss_one (ps_ret (pv 4))))))))) (fun vs H Q E h => rd_Lattice_classes LC h)
abbrev st_law_inner_alike : Stmt := top 71
theorem sc_law_inner_alike : FnScope ["inner", "box", "rows", "outer", "width", "told", "due"] ["inner", "box", "rows", "outer", "width"] (defScope st_law_inner_alike) := ⟨rfl, rfl, rfl, by decide +kernel, rfl, by decide +kernel, by decide +kernel⟩
theorem ok_law_inner_alike (T : Txt mg) (C_law_index : Cal P w Z.K mg base 33 "_law_index" (sp_law_index Z)) (C_law_stairs : Cal P w Z.K mg base 35 "_law_stairs" (sp_law_stairs Z)) (K_Lattice : Cls Z.K (Z.cls "Lattice")) (M_Lattice_classes : Met P w Z.K mg base (Z.cls "Lattice") 36 "classes" (sp_Lattice_classes Z)) (M_Lattice_within : Met P w Z.K mg base (Z.cls "Lattice") 35 "within" (sp_Lattice_within Z)) (A : At Z.K mg "_law_inner_alike" st_law_inner_alike) : Cal P w Z.K mg base 37 "_law_inner_alike" (sp_law_inner_alike Z) :=
  cal_mk (k := 36) (t := r_law_inner_alike Z) A sc_law_inner_alike (fun _ _ _ _ => ln_law_inner_alike) (fun _ _ _ _ _ _ us hl => match us, hl with | [_, _, _, _, _], _ => rfl) (fun f cdv A outer s H E hr => (pss_cons (ps_set (i := 5) sc_law_inner_alike.nd rfl (.inl rfl) (g_meth (pv 0) K_Lattice M_Lattice_classes (hr.mono (by decide)) (pa_cons (pv 1) pa_nil))) (pss_cons (ps_set (i := 6) sc_law_inner_alike.nd rfl (.inl rfl) (g_call C_law_index (hr.mono (by decide)) rfl (pa_cons (g_call C_law_stairs (hr.mono (by decide)) rfl (pa_cons (pv 2) (pa_cons (pv 4) pa_nil))) (pa_cons (g_call C_law_stairs (hr.mono (by decide)) rfl (pa_cons (pv 3) (pa_cons (pv 4) pa_nil))) pa_nil)))) (pss_cons (ps_if (PW.pt (pw_or (pt_not (pt_val (pe_callB (id := "isinstance") call_isi (by rfl) T.b_isinstance (by decide +kernel) (pa_cons (pv 5) (pa_cons (pe_bltn (v := .ty "int") rfl T.b_int (by decide +kernel) rfl) pa_nil))))) (pw_or (pt_val (pe_callB (id := "isinstance") call_isi (by rfl) T.b_isinstance (by decide +kernel) (pa_cons (pv 5) (pa_cons (pe_bltn (v := .ty "bool") rfl T.b_bool (by decide +kernel) rfl) pa_nil)))) (pw_or1 (pt_cmpR op_ne (pv 5) (pv 6) (nomark _)))))) (pss_one (ps_ret pe_bl)) pss_nil) (pss_one (ps_ret (pe_and (pe_cmpR o_isN (g_meth (pv 0) K_Lattice M_Lattice_within (hr.mono (by decide)) (pa_cons (pv 1) pa_nil)) pe_non (nomark _)) (pe_one (pe_cmpR op_eq (g_meth (pv 1) K_Lattice M_Lattice_classes (hr.mono (by decide)) (pa_cons (pv 1) pa_nil)) pe_int (nomark _)))))))))) (fun vs H Q E h => rd_law_inner_alike h)
abbrev st_law_weights_drawn : Stmt := top 72
theorem sc_law_weights_drawn : FnScope ["purse", "width", "place", "turn"] ["purse", "width"] (defScope st_law_weights_drawn) := ⟨rfl, rfl, rfl, by decide +kernel, rfl, by decide +kernel, by decide +kernel⟩
theorem ok_law_weights_drawn (T : Txt mg) (C_law_draw : Cal P w Z.K mg base 33 "_law_draw" (sp_law_draw Z)) (A : At Z.K mg "_law_weights_drawn" st_law_weights_drawn) : Cal P w Z.K mg base 34 "_law_weights_drawn" (sp_law_weights_drawn Z) :=
  cal_mk (k := 33) (t := r_law_weights_drawn Z) A sc_law_weights_drawn (fun _ _ _ _ => ln_law_weights_drawn) (fun _ _ _ _ _ _ us hl => match us, hl with | [_, _], _ => rfl) (fun f cdv A outer s H E hr => (pss_one (ps_ret (pe_lc (own := [("turn", 3)]) (by rfl) sc_law_weights_drawn.nd (pi_range1 rfl T.b_range (pa_cons (g_call C_law_draw (hr.mono (by decide)) rfl (pa_cons (pv 0) (pa_cons pe_int pa_nil))) pa_nil)) (blkOk_by (own := [("turn", 3)]) (N := nm_law_weights_drawn) (sc := defScope st_law_weights_drawn) (by decide +kernel)) (fun _ _ _ _ _ => (pg_name (i := 3) sc_law_weights_drawn.nd rfl (Or.inl rfl))) (fun _ _ _ _ _ => pts_nil) (fun _ _ _ _ _ => (pe_lc (own := [("place", 2)]) (by rfl) sc_law_weights_drawn.nd (pi_range1 rfl T.b_range (pa_cons (pv 1) pa_nil)) (blkOk_by (own := [("place", 2)]) (by kernel_rfl)) (fun _ _ _ _ _ => (pg_name (i := 2) sc_law_weights_drawn.nd rfl (Or.inl rfl))) (fun _ _ _ _ _ => pts_nil) (fun _ _ _ _ _ => (pe_op op_sub (g_call C_law_draw (hr.mono (by decide)) rfl (pa_cons (pv 0) (pa_cons pe_int pa_nil))) pe_int)))))))) (fun vs H Q E h => rd_law_weights_drawn h)
abbrev st_law_dot : Stmt := top 46
theorem sc_law_dot : FnScope ["weights", "row", "place"] ["weights", "row"] (defScope st_law_dot) := ⟨rfl, rfl, rfl, by decide +kernel, rfl, by decide +kernel, by decide +kernel⟩
theorem ok_law_dot (T : Txt mg) (A : At Z.K mg "_law_dot" st_law_dot) : Cal P w Z.K mg base 2 "_law_dot" (sp_law_dot Z) :=
  cal_mk (k := 1) (t := r_law_dot Z) A sc_law_dot (fun _ _ _ _ => ln_law_dot) (fun _ _ _ _ _ _ us hl => match us, hl with | [_, _], _ => rfl) (fun f cdv A outer s H E hr => (pss_one (ps_ret (pe_callB (id := "sum") (cr_sum rfl) (by rfl) T.b_sum (by decide +kernel) (pa_cons (pe_lc (own := [("place", 2)]) (by rfl) sc_law_dot.nd (pi_range1 rfl T.b_range (pa_cons (pe_callB (id := "len") c_len (by rfl) T.b_len (by decide +kernel) (pa_cons (pv 1) pa_nil)) pa_nil)) (blkOk_by (own := [("place", 2)]) (N := nm_law_dot) (sc := defScope st_law_dot) (by decide +kernel)) (fun _ _ _ _ _ => (pg_name (i := 2) sc_law_dot.nd rfl (Or.inl rfl))) (fun _ _ _ _ _ => pts_nil) (fun _ _ _ _ _ => (pe_op op_mulG (pe_ix x_ix (pv 0) (pv 2) (fun _ _ => rfl)) (pe_ix x_ix (pv 1) (pv 2) (fun _ _ => rfl))))) pa_nil))))) (fun vs H Q E h => rd_law_dot h)
abbrev st_law_shows : Stmt := top 56
theorem sc_law_shows : FnScope ["rows", "weights_list", "weights", "row"] ["rows", "weights_list"] (defScope st_law_shows) := ⟨rfl, rfl, rfl, by decide +kernel, rfl, by decide +kernel, by decide +kernel⟩
theorem ok_law_shows (T : Txt mg) (C_law_dot : Cal P w Z.K mg base 2 "_law_dot" (sp_law_dot Z)) (A : At Z.K mg "_law_shows" st_law_shows) : Cal P w Z.K mg base 3 "_law_shows" (sp_law_shows Z) :=
  cal_mk (k := 2) (t := r_law_shows Z) A sc_law_shows (fun _ _ _ _ => ln_law_shows) (fun _ _ _ _ _ _ us hl => match us, hl with | [_, _], _ => rfl) (fun f cdv A outer s H E hr => (pss_one (ps_ret (pe_lc (own := [("row", 3)]) (by rfl) sc_law_shows.nd (pi_list (pv 0)) (blkOk_by (own := [("row", 3)]) (N := nm_law_shows) (sc := defScope st_law_shows) (by decide +kernel)) (fun _ _ _ _ _ => (pg_name (i := 3) sc_law_shows.nd rfl (Or.inr rfl))) (fun _ _ _ _ _ => pts_nil) (fun _ _ _ _ _ => (pe_op op_cat (pe_lc (own := [("weights", 2)]) (by rfl) sc_law_shows.nd (pi_list (pv 1)) (blkOk_by (own := [("weights", 2)]) (by kernel_rfl)) (fun _ _ _ _ _ => (pg_name (i := 2) sc_law_shows.nd rfl (Or.inl rfl))) (fun _ _ _ _ _ => pts_nil) (fun _ _ _ _ _ => (g_call C_law_dot (hr.mono (by decide)) rfl (pa_cons (pv 2) (pa_cons (pv 3) pa_nil))))) (pe_callTy (T := "list") c_list (by rfl) T.b_list (by decide +kernel) (pa_cons (pv 3) pa_nil)))))))) (fun vs H Q E h => rd_law_shows h)
abbrev st_law_cut : Stmt := top 57
theorem sc_law_cut : FnScope ["rows", "width", "weights_list", "many", "left", "row"] ["rows", "width", "weights_list"] (defScope st_law_cut) := ⟨rfl, rfl, rfl, by decide +kernel, rfl, by decide +kernel, by decide +kernel⟩
theorem ok_law_cut (T : Txt mg) (C_law_stairs_rest : Cal P w Z.K mg base 34 "_law_stairs_rest" (sp_law_stairs_rest Z)) (C_law_shows : Cal P w Z.K mg base 3 "_law_shows" (sp_law_shows Z)) (C_law_stairs : Cal P w Z.K mg base 35 "_law_stairs" (sp_law_stairs Z)) (A : At Z.K mg "_law_cut" st_law_cut) : Cal P w Z.K mg base 36 "_law_cut" (sp_law_cut Z) :=
  cal_mk (k := 35) (t := r_law_cut Z) A sc_law_cut (fun _ _ _ _ => ln_law_cut) (fun _ _ _ _ _ _ us hl => match us, hl with | [_, _, _], _ => rfl) (fun f cdv A outer s H E hr => (pss_cons (ps_set (i := 3) sc_law_cut.nd rfl (.inr rfl) (pe_callB (id := "len") c_len (by rfl) T.b_len (by decide +kernel) (pa_cons (pv 2) pa_nil))) (pss_cons (ps_set (i := 4) sc_law_cut.nd rfl (.inl rfl) (pe_ix x_ix (g_call C_law_stairs_rest (hr.mono (by decide)) rfl (pa_cons (g_call C_law_shows (hr.mono (by decide)) rfl (pa_cons (pv 0) (pa_cons (pv 2) pa_nil))) (pa_cons (pv 3) pa_nil))) pe_int (fun _ _ => rfl))) (pss_one (ps_ret (g_call C_law_stairs (hr.mono (by decide)) rfl (pa_cons (pe_lc (own := [("row", 5)]) (by rfl) sc_law_cut.nd (pi_list (pv 4)) (blkOk_by (own := [("row", 5)]) (N := nm_law_cut) (sc := defScope st_law_cut) (by decide +kernel)) (fun _ _ _ _ _ => (pg_name (i := 5) sc_law_cut.nd rfl (Or.inl rfl))) (fun _ _ _ _ _ => pts_nil) (fun _ _ _ _ _ => (pe_slice sl_list (pv 5) (po_some (pv 3)) po_none))) (pa_cons (pv 1) pa_nil)))))))) (fun vs H Q E h => rd_law_cut h)
abbrev st_law_far_number : Stmt := top 65
theorem sc_law_far_number : FnScope ["purse", "size"] ["purse"] (defScope st_law_far_number) := ⟨rfl, rfl, rfl, by decide +kernel, rfl, by decide +kernel, by decide +kernel⟩
theorem ok_law_far_number (C_law_draw : Cal P w Z.K mg base 33 "_law_draw" (sp_law_draw Z)) (A : At Z.K mg "_law_far_number" st_law_far_number) : Cal P w Z.K mg base 34 "_law_far_number" (sp_law_far_number Z) :=
  cal_mk (k := 33) (t := r_law_far_number Z) A sc_law_far_number (fun _ _ _ _ => ln_law_far_number) (fun _ _ _ _ _ _ us hl => match us, hl with | [_], _ => rfl) (fun f cdv A outer s H E hr => (pss_cons (ps_set (i := 1) sc_law_far_number.nd rfl (.inl rfl) (g_call C_law_draw (hr.mono (by decide)) rfl (pa_cons (pv 0) (pa_cons (pe_ix x_ix (pe_lst (pa_cons pe_int (pa_cons pe_int (pa_cons (pe_op op_pow pe_int pe_int) (pa_cons (pe_op op_pow pe_int pe_int) pa_nil))))) (g_call C_law_draw (hr.mono (by decide)) rfl (pa_cons (pv 0) (pa_cons pe_int pa_nil))) (fun _ _ => rfl)) pa_nil)))) (pss_one (ps_ret (pe_ifExp (pt_cmpR op_eq (g_call C_law_draw (hr.mono (by decide)) rfl (pa_cons (pv 0) (pa_cons pe_int pa_nil))) pe_int (nomark _)) (pv 1) (pe_un un_neg (pv 1))))))) (fun vs H Q E h => rd_law_far_number h)
abbrev st_law_shown : Stmt := top 58
theorem sc_law_shown : FnScope ["rows", "width", "weights_list", "wanted", "many", "stairs", "left", "one"] ["rows", "width", "weights_list", "wanted"] (defScope st_law_shown) := ⟨rfl, rfl, rfl, by decide +kernel, rfl, by decide +kernel, by decide +kernel⟩
theorem ok_law_shown (T : Txt mg) (C_law_stairs : Cal P w Z.K mg base 35 "_law_stairs" (sp_law_stairs Z)) (C_law_shows : Cal P w Z.K mg base 3 "_law_shows" (sp_law_shows Z)) (C_law_reduced : Cal P w Z.K mg base 33 "_law_reduced" (sp_law_reduced Z)) (C_law_zero : Cal P w Z.K mg base 2 "_law_zero" (sp_law_zero Z)) (A : At Z.K mg "_law_shown" st_law_shown) : Cal P w Z.K mg base 36 "_law_shown" (sp_law_shown Z) :=
  cal_mk (k := 35) (t := r_law_shown Z) A sc_law_shown (fun _ _ _ _ => ln_law_shown) (fun _ _ _ _ _ _ us hl => match us, hl with | [_, _, _, _], _ => rfl) (fun f cdv A outer s H E hr => (pss_cons (ps_set (i := 4) sc_law_shown.nd rfl (.inl rfl) (pe_callB (id := "len") c_len (by rfl) T.b_len (by decide +kernel) (pa_cons (pv 2) pa_nil))) (pss_cons (ps_set (i := 5) sc_law_shown.nd rfl (.inl rfl) (g_call C_law_stairs (hr.mono (by decide)) rfl (pa_cons (g_call C_law_shows (hr.mono (by decide)) rfl (pa_cons (pv 0) (pa_cons (pv 2) pa_nil))) (pa_cons (pv 4) pa_nil)))) (pss_cons (ps_set (i := 6) sc_law_shown.nd rfl (.inl rfl) (g_call C_law_reduced (hr.mono (by decide)) rfl (pa_cons (pv 5) (pa_cons (pe_op op_cat (pe_callTy (T := "list") c_list (by rfl) T.b_list (by decide +kernel) (pa_cons (pv 3) pa_nil)) (pe_op op_rep (pe_lst (pa_cons pe_int pa_nil)) (pv 1))) pa_nil)))) (pss_cons (ps_if (pt_not (pt_val (g_call C_law_zero (hr.mono (by decide)) rfl (pa_cons (pe_slice sl_list (pv 6) po_none (po_some (pv 4))) pa_nil)))) (pss_one (ps_ret pe_non)) pss_nil) (pss_one (ps_ret (pe_lc (own := [("one", 7)]) (by rfl) sc_law_shown.nd (pi_list (pe_slice sl_list (pv 6) (po_some (pv 4)) po_none)) (blkOk_by (own := [("one", 7)]) (N := nm_law_shown) (sc := defScope st_law_shown) (by decide +kernel)) (fun _ _ _ _ _ => (pg_name (i := 7) sc_law_shown.nd rfl (Or.inl rfl))) (fun _ _ _ _ _ => pts_nil) (fun _ _ _ _ _ => (pe_un un_neg (pv 7))))))))))) (fun vs H Q E h => rd_law_shown h)
abbrev st_law_is_row : Stmt := top 59
theorem sc_law_is_row : FnScope ["told", "width", "one"] ["told", "width"] (defScope st_law_is_row) := ⟨rfl, rfl, rfl, by decide +kernel, rfl, by decide +kernel, by decide +kernel⟩
theorem ok_law_is_row (T : Txt mg) (A : At Z.K mg "_law_is_row" st_law_is_row) : Cal P w Z.K mg base 2 "_law_is_row" (sp_law_is_row Z) :=
  cal_mk (k := 1) (t := r_law_is_row Z) A sc_law_is_row (fun _ _ _ _ => ln_law_is_row) (fun _ _ _ _ _ _ us hl => match us, hl with | [_, _], _ => rfl) (fun f cdv A outer s H E hr => (pss_cons (ps_if (PW.pt (pw_or (pt_not (pt_val (pe_callB (id := "isinstance") call_isi (by rfl) T.b_isinstance (by decide +kernel) (pa_cons (pv 0) (pa_cons (pe_bltn (v := .ty "list") rfl T.b_list (by decide +kernel) rfl) pa_nil))))) (pw_or1 (pt_cmpR op_ne (pe_callB (id := "len") c_len (by rfl) T.b_len (by decide +kernel) (pa_cons (pv 0) pa_nil)) (pv 1) (nomark _))))) (pss_one (ps_ret pe_bl)) pss_nil) (pss_cons (ps_for PassesOwn.never rfl (pi_list (pv 0)) (pg_name (i := 2) sc_law_is_row.nd rfl (.inl rfl)) (pss_one (ps_if (PW.pt (pw_or (pt_not (pt_val (pe_callB (id := "isinstance") call_isi (by rfl) T.b_isinstance (by decide +kernel) (pa_cons (pv 2) (pa_cons (pe_bltn (v := .ty "int") rfl T.b_int (by decide +kernel) rfl) pa_nil))))) (pw_or1 (pt_val (pe_callB (id := "isinstance") call_isi (by rfl) T.b_isinstance (by decide +kernel) (pa_cons (pv 2) (pa_cons (pe_bltn (v := .ty "bool") rfl T.b_bool (by decide +kernel) rfl) pa_nil))))))) (pss_one (ps_ret pe_bl)) pss_nil))) (pss_one (ps_ret pe_bl))))) (fun vs H Q E h => rd_law_is_row h)
abbrev st_law_shows_values : Stmt := top 74
theorem sc_law_shows_values : FnScope ["told", "rows", "width", "weights_list", "values", "weights"] ["told", "rows", "width", "weights_list", "values"] (defScope st_law_shows_values) := ⟨rfl, rfl, rfl, by decide +kernel, rfl, by decide +kernel, by decide +kernel⟩
theorem ok_law_shows_values (C_law_is_row : Cal P w Z.K mg base 2 "_law_is_row" (sp_law_is_row Z)) (C_law_held : Cal P w Z.K mg base 34 "_law_held" (sp_law_held Z)) (C_law_stairs : Cal P w Z.K mg base 35 "_law_stairs" (sp_law_stairs Z)) (C_law_dot : Cal P w Z.K mg base 2 "_law_dot" (sp_law_dot Z)) (A : At Z.K mg "_law_shows_values" st_law_shows_values) : Cal P w Z.K mg base 36 "_law_shows_values" (sp_law_shows_values Z) :=
  cal_mk (k := 35) (t := r_law_shows_values Z) A sc_law_shows_values (fun _ _ _ _ => ln_law_shows_values) (fun _ _ _ _ _ _ us hl => match us, hl with | [_, _, _, _, _], _ => rfl) (fun f cdv A outer s H E hr => (pss_cons (ps_if (PW.pt (pw_or (pt_not (pt_val (g_call C_law_is_row (hr.mono (by decide)) rfl (pa_cons (pv 0) (pa_cons (pv 2) pa_nil))))) (pw_or1 (pt_not (pt_val (g_call C_law_held (hr.mono (by decide)) rfl (pa_cons (g_call C_law_stairs (hr.mono (by decide)) rfl (pa_cons (pv 1) (pa_cons (pv 2) pa_nil))) (pa_cons (pv 0) pa_nil)))))))) (pss_one (ps_ret pe_bl)) pss_nil) (pss_one (ps_ret (pe_cmpR (op_eqD hr.units) (pe_lc (own := [("weights", 5)]) (by rfl) sc_law_shows_values.nd (pi_list (pv 3)) (blkOk_by (own := [("weights", 5)]) (N := nm_law_shows_values) (sc := defScope st_law_shows_values) (by decide +kernel)) (fun _ _ _ _ _ => (pg_name (i := 5) sc_law_shows_values.nd rfl (Or.inl rfl))) (fun _ _ _ _ _ => pts_nil) (fun _ _ _ _ _ => (g_call C_law_dot (hr.mono (by decide)) rfl (pa_cons (pv 5) (pa_cons (pv 0) pa_nil))))) (pv 4) (nomark _)))))) (fun vs H Q E h => rd_law_shows_values h)
abbrev st_law_gcd : Stmt := top 50
theorem sc_law_gcd : FnScope ["one", "other", "rest"] ["one", "other"] (defScope st_law_gcd) := ⟨rfl, rfl, rfl, by decide +kernel, rfl, by decide +kernel, by decide +kernel⟩
theorem ok_law_gcd (T : Txt mg) (A : At Z.K mg "_law_gcd" st_law_gcd) : Cal P w Z.K mg base 2 "_law_gcd" (sp_law_gcd Z) :=
  cal_mk (k := 1) (t := r_law_gcd Z) A sc_law_gcd (fun _ _ _ _ => ln_law_gcd) (fun _ _ _ _ _ _ us hl => match us, hl with | [_, _], _ => rfl) (fun f cdv A outer s H E hr => (pss_cons (ps_set (i := 0) sc_law_gcd.nd rfl (.inl rfl) (pe_callB (id := "abs") c_abs (by rfl) T.b_abs (by decide +kernel) (pa_cons (pv 0) pa_nil))) (pss_cons (ps_set (i := 1) sc_law_gcd.nd rfl (.inl rfl) (pe_callB (id := "abs") c_abs (by rfl) T.b_abs (by decide +kernel) (pa_cons (pv 1) pa_nil))) (pss_cons (ps_while PassesOwn.never (pt_cmpR op_gt (pv 1) pe_int (nomark _)) (pss_cons (ps_set (i := 2) sc_law_gcd.nd rfl (.inl rfl) (pe_op op_modN (pe_callTy (T := "int") c_int (by rfl) T.b_int (by decide +kernel) (pa_cons (pv 0) pa_nil)) (pv 1))) (pss_cons (ps_set (i := 0) sc_law_gcd.nd rfl (.inl rfl) (pv 1)) (pss_one (ps_set (i := 1) sc_law_gcd.nd rfl (.inl rfl) (pv 2)))))) (pss_one (ps_ret (pv 0))))))) (fun vs H Q E h => rd_law_gcd h)
abbrev st_law_common : Stmt := top 75
theorem sc_law_common : FnScope ["rows", "weights", "found", "row"] ["rows", "weights"] (defScope st_law_common) := ⟨rfl, rfl, rfl, by decide +kernel, rfl, by decide +kernel, by decide +kernel⟩
theorem ok_law_common (C_law_gcd : Cal P w Z.K mg base 2 "_law_gcd" (sp_law_gcd Z)) (C_law_dot : Cal P w Z.K mg base 2 "_law_dot" (sp_law_dot Z)) (A : At Z.K mg "_law_common" st_law_common) : Cal P w Z.K mg base 3 "_law_common" (sp_law_common Z) :=
  cal_mk (k := 2) (t := r_law_common Z) A sc_law_common (fun _ _ _ _ => ln_law_common) (fun _ _ _ _ _ _ us hl => match us, hl with | [_, _], _ => rfl) (fun f cdv A outer s H E hr => (pss_cons (ps_set (i := 2) sc_law_common.nd rfl (.inl rfl) pe_int) (pss_cons (ps_for PassesOwn.never rfl (pi_list (pv 0)) (pg_name (i := 3) sc_law_common.nd rfl (.inl rfl)) (pss_one (ps_set (i := 2) sc_law_common.nd rfl (.inl rfl) (g_call C_law_gcd (hr.mono (by decide)) rfl (pa_cons (pv 2) (pa_cons (g_call C_law_dot (hr.mono (by decide)) rfl (pa_cons (pv 1) (pa_cons (pv 3) pa_nil))) pa_nil)))))) (pss_one (ps_ret (pv 2)))))) (fun vs H Q E h => rd_law_common h)
abbrev st_check_asked : Stmt := top 37
theorem sc_check_asked : FnScope ["rows", "width", "row"] ["rows", "width"] (defScope st_check_asked) := ⟨rfl, rfl, rfl, by decide +kernel, rfl, by decide +kernel, by decide +kernel⟩
theorem ok_check_asked (T : Txt mg) (C_check_numbers : Cal P w Z.K mg base 2 "check_numbers" (sp_check_numbers Z)) (C_check_rows : Cal P w Z.K mg base 4 "check_rows" (sp_check_rows Z)) (A : At Z.K mg "check_asked" st_check_asked) : Cal P w Z.K mg base 5 "check_asked" (sp_check_asked Z) :=
  cal_mk (k := 4) (t := r_check_asked Z) A sc_check_asked (fun _ _ _ _ => ln_check_asked) (fun _ _ _ _ _ _ us hl => match us, hl with | [_, _], _ => rfl) (fun f cdv A outer s H E hr => (pss_cons (ps_for PassesOwn.never rfl (pi_list (pv 0)) (pg_name (i := 2) sc_check_asked.nd rfl (.inl rfl)) (pss_one (ps_expr (g_call C_check_numbers (hr.mono (by decide)) rfl (pa_cons (pv 2) (pa_cons (g_int rfl T.g_AMOUNTS) pa_nil)))))) (pss_one (ps_expr (g_call C_check_rows (hr.mono (by decide)) rfl (pa_cons (pv 0) (pa_cons (pv 1) pa_nil))))))) (fun vs H Q E h => rd_check_asked h)
abbrev st_dot_product : Stmt := top 16
theorem sc_dot_product : FnScope ["weights", "row", "total", "place"] ["weights", "row"] (defScope st_dot_product) := ⟨rfl, rfl, rfl, by decide +kernel, rfl, by decide +kernel, by decide +kernel⟩
theorem ok_dot_product (T : Txt mg) (A : At Z.K mg "dot_product" st_dot_product) : Cal P w Z.K mg base 2 "dot_product" (sp_dot_product Z) :=
  cal_mk (k := 1) (t := r_dot_product Z) A sc_dot_product (fun _ _ _ _ => ln_dot_product) (fun _ _ _ _ _ _ us hl => match us, hl with | [_, _], _ => rfl) (fun f cdv A outer s H E hr => (pss_cons (ps_if (pt_cmpR op_ne (pe_callB (id := "len") c_len (by rfl) T.b_len (by decide +kernel) (pa_cons (pv 0) pa_nil)) (pe_callB (id := "len") c_len (by rfl) T.b_len (by decide +kernel) (pa_cons (pv 1) pa_nil)) (nomark _)) (pss_one ps_never) pss_nil) (pss_cons (ps_set (i := 2) sc_dot_product.nd rfl (.inl rfl) pe_int) (pss_cons (ps_for PassesOwn.never rfl (pi_range1 rfl T.b_range (pa_cons (pe_callB (id := "len") c_len (by rfl) T.b_len (by decide +kernel) (pa_cons (pv 1) pa_nil)) pa_nil)) (pg_name (i := 3) sc_dot_product.nd rfl (.inl rfl)) (pss_one (ps_aug (i := 2) sc_dot_product.nd rfl (.inl rfl) (pe_op op_mulG (pe_ix x_ix (pv 0) (pv 3) (fun _ _ => rfl)) (pe_ix x_ix (pv 1) (pv 3) (fun _ _ => rfl))) ip_add))) (pss_one (ps_ret (pv 2))))))) (fun vs H Q E h => rd_dot_product h)
abbrev st_shown_rows : Stmt := top 31
theorem sc_shown_rows : FnScope ["rows", "weights_list", "weights", "row"] ["rows", "weights_list"] (defScope st_shown_rows) := ⟨rfl, rfl, rfl, by decide +kernel, rfl, by decide +kernel, by decide +kernel⟩
theorem ok_shown_rows (T : Txt mg) (C_dot_product : Cal P w Z.K mg base 2 "dot_product" (sp_dot_product Z)) (A : At Z.K mg "shown_rows" st_shown_rows) : Cal P w Z.K mg base 3 "shown_rows" (sp_shown_rows Z) :=
  cal_mk (k := 2) (t := r_shown_rows Z) A sc_shown_rows (fun _ _ _ _ => ln_shown_rows) (fun _ _ _ _ _ _ us hl => match us, hl with | [_, _], _ => rfl) (fun f cdv A outer s H E hr => (pss_one (ps_ret (pe_lc (own := [("row", 3)]) (by rfl) sc_shown_rows.nd (pi_list (pv 0)) (blkOk_by (own := [("row", 3)]) (N := nm_shown_rows) (sc := defScope st_shown_rows) (by decide +kernel)) (fun _ _ _ _ _ => (pg_name (i := 3) sc_shown_rows.nd rfl (Or.inr rfl))) (fun _ _ _ _ _ => pts_nil) (fun _ _ _ _ _ => (pe_op op_cat (pe_lc (own := [("weights", 2)]) (by rfl) sc_shown_rows.nd (pi_list (pv 1)) (blkOk_by (own := [("weights", 2)]) (by kernel_rfl)) (fun _ _ _ _ _ => (pg_name (i := 2) sc_shown_rows.nd rfl (Or.inl rfl))) (fun _ _ _ _ _ => pts_nil) (fun _ _ _ _ _ => (g_call C_dot_product (hr.mono (by decide)) rfl (pa_cons (pv 2) (pa_cons (pv 3) pa_nil))))) (pe_callTy (T := "list") c_list (by rfl) T.b_list (by decide +kernel) (pa_cons (pv 3) pa_nil)))))))) (fun vs H Q E h => rd_shown_rows h)
abbrev st_cut_by : Stmt := top 32
theorem sc_cut_by : FnScope ["width", "rows", "weights_list", "many", "left", "row"] ["width", "rows", "weights_list"] (defScope st_cut_by) := ⟨rfl, rfl, rfl, by decide +kernel, rfl, by decide +kernel, by decide +kernel⟩
theorem ok_cut_by (T : Txt mg) (C_stairs_and_rest : Cal P w Z.K mg base 34 "stairs_and_rest" (sp_stairs_and_rest Z)) (C_shown_rows : Cal P w Z.K mg base 3 "shown_rows" (sp_shown_rows Z)) (C_stairs_of : Cal P w Z.K mg base 35 "stairs_of" (sp_stairs_of Z)) (A : At Z.K mg "cut_by" st_cut_by) : Cal P w Z.K mg base 36 "cut_by" (sp_cut_by Z) :=
  cal_mk (k := 35) (t := r_cut_by Z) A sc_cut_by (fun _ _ _ _ => ln_cut_by) (fun _ _ _ _ _ _ us hl => match us, hl with | [_, _, _], _ => rfl) (fun f cdv A outer s H E hr => (pss_cons (ps_set (i := 3) sc_cut_by.nd rfl (.inr rfl) (pe_callB (id := "len") c_len (by rfl) T.b_len (by decide +kernel) (pa_cons (pv 2) pa_nil))) (pss_cons (ps_set (i := 4) sc_cut_by.nd rfl (.inl rfl) (pe_ix x_ixT (g_call C_stairs_and_rest (hr.mono (by decide)) rfl (pa_cons (g_call C_shown_rows (hr.mono (by decide)) rfl (pa_cons (pv 1) (pa_cons (pv 2) pa_nil))) (pa_cons (pv 3) pa_nil))) pe_int (fun _ _ => rfl))) (pss_one (ps_ret (g_call C_stairs_of (hr.mono (by decide)) rfl (pa_cons (pe_lc (own := [("row", 5)]) (by rfl) sc_cut_by.nd (pi_list (pv 4)) (blkOk_by (own := [("row", 5)]) (N := nm_cut_by) (sc := defScope st_cut_by) (by decide +kernel)) (fun _ _ _ _ _ => (pg_name (i := 5) sc_cut_by.nd rfl (Or.inl rfl))) (fun _ _ _ _ _ => pts_nil) (fun _ _ _ _ _ => (pe_slice sl_list (pv 5) (po_some (pv 3)) po_none))) (pa_cons (pv 0) pa_nil)))))))) (fun vs H Q E h => rd_cut_by h)
abbrev st_cut_lattice : Stmt := top 41
theorem sc_cut_lattice : FnScope ["lattice", "weights_list"] ["lattice", "weights_list"] (defScope st_cut_lattice) := ⟨rfl, rfl, rfl, by decide +kernel, rfl, by decide +kernel, by decide +kernel⟩
theorem ok_cut_lattice (C_lattice_of : Cal P w Z.K mg base 38 "lattice_of" (sp_lattice_of Z)) (C_cut_by : Cal P w Z.K mg base 36 "cut_by" (sp_cut_by Z)) (LC : LatCls Z) (A : At Z.K mg "cut_lattice" st_cut_lattice) : Cal P w Z.K mg base 39 "cut_lattice" (sp_cut_lattice Z) :=
  cal_mk (k := 38) (t := r_cut_lattice Z) A sc_cut_lattice (fun _ _ _ _ => ln_cut_lattice) (fun _ _ _ _ _ _ us hl => match us, hl with | [_, _], _ => rfl) (fun f cdv A outer s H E hr => (pss_one (ps_ret (g_call C_lattice_of (hr.mono (by decide)) rfl (pa_cons (pe_fld (pv 0) rfl) (pa_cons (g_call C_cut_by (hr.mono (by decide)) rfl (pa_cons (pe_fld (pv 0) rfl) (pa_cons (pe_fld (pv 0) rfl) (pa_cons (pv 1) pa_nil)))) pa_nil)))))) (fun vs H Q E h => rd_cut_lattice LC h)
abbrev st_Lattice_cut : Stmt := inClass (top 35) 10
theorem sc_Lattice_cut : FnScope ["self", "weights_list"] ["self", "weights_list"] (defScope st_Lattice_cut) := ⟨rfl, rfl, rfl, by decide +kernel, rfl, by decide +kernel, by decide +kernel⟩
theorem ok_Lattice_cut (C_check_asked : Cal P w Z.K mg base 5 "check_asked" (sp_check_asked Z)) (C_cut_lattice : Cal P w Z.K mg base 39 "cut_lattice" (sp_cut_lattice Z)) (LC : LatCls Z) (A : AtM Z.K (Z.cls "Lattice") "cut" "Lattice.cut" st_Lattice_cut) : Met P w Z.K mg base (Z.cls "Lattice") 40 "cut" (sp_Lattice_cut Z) :=
  met_mk (k := 39) (t := r_Lattice_cut Z) A sc_Lattice_cut (fun _ _ _ _ => ln_Lattice_cut) (fun _ _ _ _ _ _ us hl => match us, hl with | [_, _], _ => rfl) (fun f cdv A outer s H E hr => (pss_cons (ps_expr (g_call C_check_asked (hr.mono (by decide)) rfl (pa_cons (pv 1) (pa_cons (pe_fld (pv 0) rfl) pa_nil)))) (pss_one (ps_ret (g_call C_cut_lattice (hr.mono (by decide)) rfl (pa_cons (pv 0) (pa_cons (pv 1) pa_nil))))))) (fun vs H Q E h => rd_Lattice_cut LC h)
abbrev st_zero_row : Stmt := top 18
theorem sc_zero_row : FnScope ["width"] ["width"] (defScope st_zero_row) := ⟨rfl, rfl, rfl, by decide +kernel, rfl, by decide +kernel, by decide +kernel⟩
theorem ok_zero_row  (A : At Z.K mg "zero_row" st_zero_row) : Cal P w Z.K mg base 2 "zero_row" (sp_zero_row Z) :=
  cal_mk (k := 1) (t := r_zero_row Z) A sc_zero_row (fun _ _ _ _ => ln_zero_row) (fun _ _ _ _ _ _ us hl => match us, hl with | [_], _ => rfl) (fun f cdv A outer s H E hr => (pss_one (ps_ret (pe_op op_rep (pe_lst (pa_cons pe_int pa_nil)) (pv 0))))) (fun vs H Q E h => rd_zero_row h)
abbrev st_shown_row : Stmt := top 33
theorem sc_shown_row : FnScope ["width", "rows", "weights_list", "wanted", "many", "stairs", "left"] ["width", "rows", "weights_list", "wanted"] (defScope st_shown_row) := ⟨rfl, rfl, rfl, by decide +kernel, rfl, by decide +kernel, by decide +kernel⟩
theorem ok_shown_row (T : Txt mg) (C_stairs_and_rest : Cal P w Z.K mg base 34 "stairs_and_rest" (sp_stairs_and_rest Z)) (C_shown_rows : Cal P w Z.K mg base 3 "shown_rows" (sp_shown_rows Z)) (C_reduced_row : Cal P w Z.K mg base 33 "reduced_row" (sp_reduced_row Z)) (C_zero_row : Cal P w Z.K mg base 2 "zero_row" (sp_zero_row Z)) (C_is_zero : Cal P w Z.K mg base 2 "is_zero" (sp_is_zero Z)) (C_scaled_row : Cal P w Z.K mg base 2 "scaled_row" (sp_scaled_row Z)) (A : At Z.K mg "shown_row" st_shown_row) : Cal P w Z.K mg base 35 "shown_row" (sp_shown_row Z) :=
  cal_mk (k := 34) (t := r_shown_row Z) A sc_shown_row (fun _ _ _ _ => ln_shown_row) (fun _ _ _ _ _ _ us hl => match us, hl with | [_, _, _, _], _ => rfl) (fun f cdv A outer s H E hr => (pss_cons (ps_set (i := 4) sc_shown_row.nd rfl (.inl rfl) (pe_callB (id := "len") c_len (by rfl) T.b_len (by decide +kernel) (pa_cons (pv 2) pa_nil))) (pss_cons (ps_set (i := 5) sc_shown_row.nd rfl (.inl rfl) (pe_ix x_ixT (g_call C_stairs_and_rest (hr.mono (by decide)) rfl (pa_cons (g_call C_shown_rows (hr.mono (by decide)) rfl (pa_cons (pv 1) (pa_cons (pv 2) pa_nil))) (pa_cons (pv 4) pa_nil))) pe_int (fun _ _ => rfl))) (pss_cons (ps_set (i := 6) sc_shown_row.nd rfl (.inl rfl) (g_call C_reduced_row (hr.mono (by decide)) rfl (pa_cons (pv 5) (pa_cons (pe_op op_cat (pe_callTy (T := "list") c_list (by rfl) T.b_list (by decide +kernel) (pa_cons (pv 3) pa_nil)) (g_call C_zero_row (hr.mono (by decide)) rfl (pa_cons (pv 0) pa_nil))) pa_nil)))) (pss_cons (ps_if (pt_not (pt_val (g_call C_is_zero (hr.mono (by decide)) rfl (pa_cons (pe_slice sl_list (pv 6) po_none (po_some (pv 4))) pa_nil)))) (pss_one (ps_ret pe_non)) pss_nil) (pss_one (ps_ret (g_call C_scaled_row (hr.mono (by decide)) rfl (pa_cons (pe_un un_neg pe_int) (pa_cons (pe_slice sl_list (pv 6) (po_some (pv 4)) po_none) pa_nil)))))))))) (fun vs H Q E h => rd_shown_row h)
abbrev st_Lattice_shown : Stmt := inClass (top 35) 11
theorem sc_Lattice_shown : FnScope ["self", "weights_list", "wanted"] ["self", "weights_list", "wanted"] (defScope st_Lattice_shown) := ⟨rfl, rfl, rfl, by decide +kernel, rfl, by decide +kernel, by decide +kernel⟩
theorem ok_Lattice_shown (T : Txt mg) (C_check_numbers : Cal P w Z.K mg base 2 "check_numbers" (sp_check_numbers Z)) (C_check_asked : Cal P w Z.K mg base 5 "check_asked" (sp_check_asked Z)) (C_whole_list : Cal P w Z.K mg base 3 "whole_list" (sp_whole_list Z)) (C_shown_row : Cal P w Z.K mg base 35 "shown_row" (sp_shown_row Z)) (LC : LatCls Z) (A : AtM Z.K (Z.cls "Lattice") "shown" "Lattice.shown" st_Lattice_shown) : Met P w Z.K mg base (Z.cls "Lattice") 36 "shown" (sp_Lattice_shown Z) :=
  met_mk (k := 35) (t := r_Lattice_shown Z) A sc_Lattice_shown (fun _ _ _ _ => ln_Lattice_shown) (fun _ _ _ _ _ _ us hl => match us, hl with | [_, _, _], _ => rfl) (fun f cdv A outer s H E hr => (pss_cons (ps_expr (g_call C_check_numbers (hr.mono (by decide)) rfl (pa_cons (pv 2) (pa_cons (g_int rfl T.g_AMOUNTS) pa_nil)))) (pss_cons (ps_expr (g_call C_check_asked (hr.mono (by decide)) rfl (pa_cons (pv 1) (pa_cons (pe_fld (pv 0) rfl) pa_nil)))) (pss_cons (ps_if (pt_not (pt_val (g_call C_whole_list (hr.mono (by decide)) rfl (pa_cons (pv 2) (pa_cons (pe_callB (id := "len") c_len (by rfl) T.b_len (by decide +kernel) (pa_cons (pv 1) pa_nil)) pa_nil))))) (pss_one ps_never) pss_nil) (pss_one (ps_ret (g_call C_shown_row (hr.mono (by decide)) rfl (pa_cons (pe_fld (pv 0) rfl) (pa_cons (pe_fld (pv 0) rfl) (pa_cons (pv 1) (pa_cons (pv 2) pa_nil))))))))))) (fun vs H Q E h => rd_Lattice_shown LC h)
abbrev st_greatest_common : Stmt := top 21
theorem sc_greatest_common : FnScope ["one", "other"] ["one", "other"] (defScope st_greatest_common) := ⟨rfl, rfl, rfl, by decide +kernel, rfl, by decide +kernel, by decide +kernel⟩
theorem ok_greatest_common (T : Txt mg) (A : At Z.K mg "greatest_common" st_greatest_common) : Cal P w Z.K mg base 2 "greatest_common" (sp_greatest_common Z) :=
  cal_mk (k := 1) (t := r_greatest_common Z) A sc_greatest_common (fun _ _ _ _ => ln_greatest_common) (fun _ _ _ _ _ _ us hl => match us, hl with | [_, _], _ => rfl) (fun f cdv A outer s H E hr => (pss_cons (ps_while PassesOwn.never (pt_cmpR op_ne (pv 1) pe_int (nomark _)) (pss_one (ps_par (i := 0) (j := 1) rfl sc_greatest_common.nd rfl rfl (by decide) rfl rfl (pa_cons (pv 1) (pa_cons (pe_op op_modN (pv 0) (pv 1)) pa_nil)) rfl))) (pss_one (ps_ret (pe_callB (id := "abs") c_abs (by rfl) T.b_abs (by decide +kernel) (pa_cons (pv 0) pa_nil)))))) (fun vs H Q E h => rd_greatest_common h)
abbrev st_common_of : Stmt := top 42
theorem sc_common_of : FnScope ["lattice", "weights", "found", "row"] ["lattice", "weights"] (defScope st_common_of) := ⟨rfl, rfl, rfl, by decide +kernel, rfl, by decide +kernel, by decide +kernel⟩
theorem ok_common_of (C_greatest_common : Cal P w Z.K mg base 2 "greatest_common" (sp_greatest_common Z)) (C_dot_product : Cal P w Z.K mg base 2 "dot_product" (sp_dot_product Z)) (LC : LatCls Z) (A : At Z.K mg "common_of" st_common_of) : Cal P w Z.K mg base 3 "common_of" (sp_common_of Z) :=
  cal_mk (k := 2) (t := r_common_of Z) A sc_common_of (fun _ _ _ _ => ln_common_of) (fun _ _ _ _ _ _ us hl => match us, hl with | [_, _], _ => rfl) (fun f cdv A outer s H E hr => (pss_cons (ps_set (i := 2) sc_common_of.nd rfl (.inl rfl) pe_int) (pss_cons (ps_for PassesOwn.never rfl (pi_list (pe_fld (pv 0) rfl)) (pg_name (i := 3) sc_common_of.nd rfl (.inl rfl)) (pss_one (ps_set (i := 2) sc_common_of.nd rfl (.inl rfl) (g_call C_greatest_common (hr.mono (by decide)) rfl (pa_cons (pv 2) (pa_cons (g_call C_dot_product (hr.mono (by decide)) rfl (pa_cons (pv 1) (pa_cons (pv 3) pa_nil))) pa_nil)))))) (pss_one (ps_ret (pv 2)))))) (fun vs H Q E h => rd_common_of LC h)
abbrev st_Lattice_common : Stmt := inClass (top 35) 12
theorem sc_Lattice_common : FnScope ["self", "weights"] ["self", "weights"] (defScope st_Lattice_common) := ⟨rfl, rfl, rfl, by decide +kernel, rfl, by decide +kernel, by decide +kernel⟩
theorem ok_Lattice_common (C_check_asked : Cal P w Z.K mg base 5 "check_asked" (sp_check_asked Z)) (C_common_of : Cal P w Z.K mg base 3 "common_of" (sp_common_of Z)) (LC : LatCls Z) (A : AtM Z.K (Z.cls "Lattice") "common" "Lattice.common" st_Lattice_common) : Met P w Z.K mg base (Z.cls "Lattice") 6 "common" (sp_Lattice_common Z) :=
  met_mk (k := 5) (t := r_Lattice_common Z) A sc_Lattice_common (fun _ _ _ _ => ln_Lattice_common) (fun _ _ _ _ _ _ us hl => match us, hl with | [_, _], _ => rfl) (fun f cdv A outer s H E hr => (pss_cons (ps_expr (g_call C_check_asked (hr.mono (by decide)) rfl (pa_cons (pe_lst (pa_cons (pv 1) pa_nil)) (pa_cons (pe_fld (pv 0) rfl) pa_nil)))) (pss_one (ps_ret (g_call C_common_of (hr.mono (by decide)) rfl (pa_cons (pv 0) (pa_cons (pv 1) pa_nil))))))) (fun vs H Q E h => rd_Lattice_common LC h)
abbrev st_law_cut_alike : Stmt := top 73
theorem sc_law_cut_alike : FnScope ["purse", "box", "rows", "width", "weights_list", "handed", "weights", "due", "made", "inside", "row", "wanted", "spoilt", "value", "values", "one", "told", "can"] ["purse", "box", "rows", "width"] (defScope st_law_cut_alike) := ⟨rfl, rfl, rfl, by decide +kernel, rfl, by decide +kernel, by decide +kernel⟩
theorem ok_law_cut_alike (T : Txt mg) (C_law_weights_drawn : Cal P w Z.K mg base 34 "_law_weights_drawn" (sp_law_weights_drawn Z)) (C_law_cut : Cal P w Z.K mg base 36 "_law_cut" (sp_law_cut Z)) (C_law_is_lattice : Cal P w Z.K mg base 3 "_law_is_lattice" (sp_law_is_lattice Z)) (C_law_mixed : Cal P w Z.K mg base 2 "_law_mixed" (sp_law_mixed Z)) (C_law_far_number : Cal P w Z.K mg base 34 "_law_far_number" (sp_law_far_number Z)) (C_law_dot : Cal P w Z.K mg base 2 "_law_dot" (sp_law_dot Z)) (C_law_draw : Cal P w Z.K mg base 33 "_law_draw" (sp_law_draw Z)) (C_law_shown : Cal P w Z.K mg base 36 "_law_shown" (sp_law_shown Z)) (C_law_shows_values : Cal P w Z.K mg base 36 "_law_shows_values" (sp_law_shows_values Z)) (C_law_common : Cal P w Z.K mg base 3 "_law_common" (sp_law_common Z)) (K_Lattice : Cls Z.K (Z.cls "Lattice")) (M_Lattice_cut : Met P w Z.K mg base (Z.cls "Lattice") 40 "cut" (sp_Lattice_cut Z)) (M_Lattice_given : Met P w Z.K mg base (Z.cls "Lattice") 2 "given" (sp_Lattice_given Z)) (M_Lattice_shown : Met P w Z.K mg base (Z.cls "Lattice") 36 "shown" (sp_Lattice_shown Z)) (M_Lattice_common : Met P w Z.K mg base (Z.cls "Lattice") 6 "common" (sp_Lattice_common Z)) (A : At Z.K mg "_law_cut_alike" st_law_cut_alike) : Cal P w Z.K mg base 41 "_law_cut_alike" (sp_law_cut_alike Z) :=
  cal_mk (k := 40) (t := r_law_cut_alike Z) A sc_law_cut_alike (fun _ _ _ _ => ln_law_cut_alike) (fun _ _ _ _ _ _ us hl => match us, hl with | [_, _, _, _], _ => rfl) (fun f cdv A outer s H E hr => (pss_cons (ps_set (i := 4) sc_law_cut_alike.nd rfl (.inl rfl) (g_call C_law_weights_drawn (hr.mono (by decide)) rfl (pa_cons (pv 0) (pa_cons (pv 3) pa_nil)))) (pss_cons (ps_setLc (i := 5) (own := [("weights", 6)]) (by rfl) sc_law_cut_alike.nd rfl rfl (sw_true rfl rfl rfl (by decide +kernel)) (pi_list (pv 4)) (blkOk_by (own := [("weights", 6)]) (N := nm_law_cut_alike) (sc := defScope st_law_cut_alike) (by decide +kernel)) (fun _ _ _ _ _ => (pg_name (i := 6) sc_law_cut_alike.nd rfl (Or.inl rfl))) (fun _ _ _ _ _ => pts_nil) (fun _ _ _ _ _ => (pe_callTy (T := "list") c_list (by rfl) T.b_list (by decide +kernel) (pa_cons (pv 6) pa_nil)))) (pss_cons (ps_set (i := 7) sc_law_cut_alike.nd rfl (.inl rfl) (g_call C_law_cut (hr.mono (by decide)) rfl (pa_cons (pv 2) (pa_cons (pv 3) (pa_cons (pv 4) pa_nil))))) (pss_cons (ps_set (i := 8) sc_law_cut_alike.nd rfl (.inl rfl) (g_meth (pv 1) K_Lattice M_Lattice_cut (hr.mono (by decide)) (pa_cons (pv 5) pa_nil))) (pss_cons (ps_if (PW.pt (pw_or (pt_not (pt_val (g_call C_law_is_lattice (hr.mono (by decide)) rfl (pa_cons (pv 8) (pa_cons (pv 3) (pa_cons (pv 7) pa_nil)))))) (pw_or (pt_cmpR (op_neD hr.units) (g_meth0 (pv 8) K_Lattice M_Lattice_given (hr.mono (by decide))) (pv 7) (nomark _)) (pw_or1 (pt_cmpR (op_neD hr.units) (pv 5) (pv 4) (nomark _)))))) (pss_one (ps_ret pe_bl)) pss_nil) (pss_cons (ps_set (i := 9) sc_law_cut_alike.nd rfl (.inr rfl) (g_call C_law_mixed (hr.mono (by decide)) rfl (pa_cons (pe_lc (own := [("row", 10)]) (by rfl) sc_law_cut_alike.nd (pi_list (pv 2)) (blkOk_by (own := [("row", 10)]) (N := nm_law_cut_alike) (sc := defScope st_law_cut_alike) (by decide +kernel)) (fun _ _ _ _ _ => (pg_name (i := 10) sc_law_cut_alike.nd rfl (Or.inl rfl))) (fun _ _ _ _ _ => pts_nil) (fun _ _ _ _ _ => (g_call C_law_far_number (hr.mono (by decide)) rfl (pa_cons (pv 0) pa_nil)))) (pa_cons (pv 2) (pa_cons (pv 3) pa_nil))))) (pss_cons (ps_setLc (i := 11) (own := [("weights", 6)]) (by rfl) sc_law_cut_alike.nd rfl rfl (sw_true rfl rfl rfl (by decide +kernel)) (pi_list (pv 4)) (blkOk_by (own := [("weights", 6)]) (N := nm_law_cut_alike) (sc := defScope st_law_cut_alike) (by decide +kernel)) (fun _ _ _ _ _ => (pg_name (i := 6) sc_law_cut_alike.nd rfl (Or.inl rfl))) (fun _ _ _ _ _ => pts_nil) (fun _ _ _ _ _ => (g_call C_law_dot (hr.mono (by decide)) rfl (pa_cons (pv 6) (pa_cons (pv 9) pa_nil))))) (pss_cons (ps_setLc (i := 12) (own := [("value", 13)]) (by rfl) sc_law_cut_alike.nd rfl rfl (sw_true rfl rfl rfl (by decide +kernel)) (pi_list (pv 11)) (blkOk_by (own := [("value", 13)]) (N := nm_law_cut_alike) (sc := defScope st_law_cut_alike) (by decide +kernel)) (fun _ _ _ _ _ => (pg_name (i := 13) sc_law_cut_alike.nd rfl (Or.inl rfl))) (fun _ _ _ _ _ => pts_nil) (fun _ _ _ _ _ => (pe_op op_add (pv 13) (g_call C_law_draw (hr.mono (by decide)) rfl (pa_cons (pv 0) (pa_cons pe_int pa_nil)))))) (pss_cons (ps_for PassesOwn.never rfl (pi_list (pe_lst (pa_cons (pv 11) (pa_cons (pv 12) pa_nil)))) (pg_name (i := 14) sc_law_cut_alike.nd rfl (.inl rfl)) (pss_one (ps_if (pt_cmpR op_le (pe_callB (id := "max") (cr_max rfl) (by rfl) T.b_max (by decide +kernel) (pa_cons (pe_op op_cat (pe_lst (pa_cons pe_int pa_nil)) (pe_lc (own := [("one", 15)]) (by rfl) sc_law_cut_alike.nd (pi_list (pv 14)) (blkOk_by (own := [("one", 15)]) (N := nm_law_cut_alike) (sc := defScope st_law_cut_alike) (by decide +kernel)) (fun _ _ _ _ _ => (pg_name (i := 15) sc_law_cut_alike.nd rfl (Or.inl rfl))) (fun _ _ _ _ _ => pts_nil) (fun _ _ _ _ _ => (pe_callB (id := "abs") c_abs (by rfl) T.b_abs (by decide +kernel) (pa_cons (pv 15) pa_nil))))) pa_nil)) (pe_op op_pow pe_int pe_int) (nomark _)) (pss_cons (ps_set (i := 16) sc_law_cut_alike.nd rfl (.inl rfl) (g_meth (pv 1) K_Lattice M_Lattice_shown (hr.mono (by decide)) (pa_cons (pv 5) (pa_cons (pe_callTy (T := "list") c_list (by rfl) T.b_list (by decide +kernel) (pa_cons (pv 14) pa_nil)) pa_nil)))) (pss_cons (ps_set (i := 17) sc_law_cut_alike.nd rfl (.inl rfl) (pe_cmpR o_notN (g_call C_law_shown (hr.mono (by decide)) rfl (pa_cons (pv 2) (pa_cons (pv 3) (pa_cons (pv 4) (pa_cons (pv 14) pa_nil))))) pe_non (nomark _))) (pss_cons (ps_if (pt_cmpR op_eq (pe_cmpR o_isN (pv 16) pe_non (nomark _)) (pv 17) (nomark _)) (pss_one (ps_ret pe_bl)) pss_nil) (pss_one (ps_if (PW.pt (pw_and (pt_val (pv 17)) (pw_and1 (pt_not (pt_val (g_call C_law_shows_values (hr.mono (by decide)) rfl (pa_cons (pv 16) (pa_cons (pv 2) (pa_cons (pv 3) (pa_cons (pv 4) (pa_cons (pv 14) pa_nil))))))))))) (pss_one (ps_ret pe_bl)) pss_nil))))) pss_nil))) (pss_cons (ps_for PassesOwn.never rfl (pi_list (pe_op op_cat (pv 4) (pe_lst (pa_cons (pe_op op_rep (pe_lst (pa_cons pe_int pa_nil)) (pv 3)) pa_nil)))) (pg_name (i := 6) sc_law_cut_alike.nd rfl (.inl rfl)) (pss_one (ps_if (pt_cmpR op_ne (g_meth (pv 1) K_Lattice M_Lattice_common (hr.mono (by decide)) (pa_cons (pe_callTy (T := "list") c_list (by rfl) T.b_list (by decide +kernel) (pa_cons (pv 6) pa_nil)) pa_nil)) (g_call C_law_common (hr.mono (by decide)) rfl (pa_cons (pv 2) (pa_cons (pv 6) pa_nil))) (nomark _)) (pss_one (ps_ret pe_bl)) pss_nil))) (pss_one (ps_ret (pe_cmpR (op_eqD hr.units) (pv 5) (pv 4) (nomark _))))))))))))))) (fun vs H Q E h => rd_law_cut_alike h)
abbrev st_Lattice_at_places : Stmt := inClass (top 35) 13
theorem sc_Lattice_at_places : FnScope ["self", "places", "place", "row"] ["self", "places"] (defScope st_Lattice_at_places) := ⟨rfl, rfl, rfl, by decide +kernel, rfl, by decide +kernel, by decide +kernel⟩
theorem ok_Lattice_at_places (T : Txt mg) (C_lattice_of : Cal P w Z.K mg base 38 "lattice_of" (sp_lattice_of Z)) (LC : LatCls Z) (A : AtM Z.K (Z.cls "Lattice") "at_places" "Lattice.at_places" st_Lattice_at_places) : Met P w Z.K mg base (Z.cls "Lattice") 39 "at_places" (sp_Lattice_at_places Z) :=
  met_mk (k := 38) (t := r_Lattice_at_places Z) A sc_Lattice_at_places (fun _ _ _ _ => ln_Lattice_at_places) (fun _ _ _ _ _ _ us hl => match us, hl with | [_, _], _ => rfl) (fun f cdv A outer s H E hr => (pss_cons (ps_for PassesOwn.never rfl (pi_list (pv 1)) (pg_name (i := 2) sc_Lattice_at_places.nd rfl (.inl rfl)) (pss_one (ps_if (pt_not (pt_chain op_le op_lt pe_int (pv 2) (pe_fld (pv 0) rfl))) (pss_one ps_never) pss_nil))) (pss_one (ps_ret (g_call C_lattice_of (hr.mono (by decide)) rfl (pa_cons (pe_callB (id := "len") c_len (by rfl) T.b_len (by decide +kernel) (pa_cons (pv 1) pa_nil)) (pa_cons (pe_lc (own := [("row", 3)]) (by rfl) sc_Lattice_at_places.nd (pi_list (pe_fld (pv 0) rfl)) (blkOk_by (own := [("row", 3)]) (N := nm_Lattice_at_places) (sc := defScope st_Lattice_at_places) (by decide +kernel)) (fun _ _ _ _ _ => (pg_name (i := 3) sc_Lattice_at_places.nd rfl (Or.inr rfl))) (fun _ _ _ _ _ => pts_nil) (fun _ _ _ _ _ => (pe_lc (own := [("place", 2)]) (by rfl) sc_Lattice_at_places.nd (pi_list (pv 1)) (blkOk_by (own := [("place", 2)]) (by kernel_rfl)) (fun _ _ _ _ _ => (pg_name (i := 2) sc_Lattice_at_places.nd rfl (Or.inl rfl))) (fun _ _ _ _ _ => pts_nil) (fun _ _ _ _ _ => (pe_ix x_ix (pv 3) (pv 2) (fun _ _ => rfl)))))) pa_nil))))))) (fun vs H Q E h => rd_Lattice_at_places LC h)
abbrev st_law_places_alike : Stmt := top 76
theorem sc_law_places_alike : FnScope ["purse", "box", "rows", "width", "places", "turn", "cut", "place", "row", "made"] ["purse", "box", "rows", "width"] (defScope st_law_places_alike) := ⟨rfl, rfl, rfl, by decide +kernel, rfl, by decide +kernel, by decide +kernel⟩
theorem ok_law_places_alike (T : Txt mg) (C_law_draw : Cal P w Z.K mg base 33 "_law_draw" (sp_law_draw Z)) (C_law_is_lattice : Cal P w Z.K mg base 3 "_law_is_lattice" (sp_law_is_lattice Z)) (C_law_stairs : Cal P w Z.K mg base 35 "_law_stairs" (sp_law_stairs Z)) (K_Lattice : Cls Z.K (Z.cls "Lattice")) (M_Lattice_at_places : Met P w Z.K mg base (Z.cls "Lattice") 39 "at_places" (sp_Lattice_at_places Z)) (M_Lattice_given : Met P w Z.K mg base (Z.cls "Lattice") 2 "given" (sp_Lattice_given Z)) (A : At Z.K mg "_law_places_alike" st_law_places_alike) : Cal P w Z.K mg base 40 "_law_places_alike" (sp_law_places_alike Z) :=
  cal_mk (k := 39) (t := r_law_places_alike Z) A sc_law_places_alike (fun _ _ _ _ => ln_law_places_alike) (fun _ _ _ _ _ _ us hl => match us, hl with | [_, _, _, _], _ => rfl) (fun f cdv A outer s H E hr => (pss_cons (ps_set (i := 4) sc_law_places_alike.nd rfl (Or.inr rfl) (pe_lc (own := [("turn", 5)]) (by rfl) sc_law_places_alike.nd (pi_range1 rfl T.b_range (pa_cons (g_call C_law_draw (hr.mono (by decide)) rfl (pa_cons (pv 0) (pa_cons (pe_op op_add (pv 3) pe_int) pa_nil))) pa_nil)) (blkOk_by (own := [("turn", 5)]) (N := nm_law_places_alike) (sc := defScope st_law_places_alike) (by decide +kernel)) (fun _ _ _ _ _ => (pg_name (i := 5) sc_law_places_alike.nd rfl (Or.inl rfl))) (fun _ _ _ _ _ => pts_nil) (fun _ _ _ _ _ => (g_call C_law_draw (hr.mono (by decide)) rfl (pa_cons (pv 0) (pa_cons (pv 3) pa_nil)))))) (pss_cons (ps_setLc (i := 6) (own := [("row", 8)]) (by rfl) sc_law_places_alike.nd rfl rfl (sw_true rfl rfl rfl (by decide +kernel)) (pi_list (pv 2)) (blkOk_by (own := [("row", 8)]) (N := nm_law_places_alike) (sc := defScope st_law_places_alike) (by decide +kernel)) (fun _ _ _ _ _ => (pg_name (i := 8) sc_law_places_alike.nd rfl (Or.inr rfl))) (fun _ _ _ _ _ => pts_nil) (fun _ _ _ _ _ => (pe_lc (own := [("place", 7)]) (by rfl) sc_law_places_alike.nd (pi_list (pv 4)) (blkOk_by (own := [("place", 7)]) (by kernel_rfl)) (fun _ _ _ _ _ => (pg_name (i := 7) sc_law_places_alike.nd rfl (Or.inl rfl))) (fun _ _ _ _ _ => pts_nil) (fun _ _ _ _ _ => (pe_ix x_ix (pv 8) (pv 7) (fun _ _ => rfl)))))) (pss_cons (ps_set (i := 9) sc_law_places_alike.nd rfl (.inl rfl) (g_meth (pv 1) K_Lattice M_Lattice_at_places (hr.mono (by decide)) (pa_cons (pe_callTy (T := "list") c_list (by rfl) T.b_list (by decide +kernel) (pa_cons (pv 4) pa_nil)) pa_nil))) (pss_one (ps_ret (pe_and (g_call C_law_is_lattice (hr.mono (by decide)) rfl (pa_cons (pv 9) (pa_cons (pe_callB (id := "len") c_len (by rfl) T.b_len (by decide +kernel) (pa_cons (pv 4) pa_nil)) (pa_cons (g_call C_law_stairs (hr.mono (by decide)) rfl (pa_cons (pv 6) (pa_cons (pe_callB (id := "len") c_len (by rfl) T.b_len (by decide +kernel) (pa_cons (pv 4) pa_nil)) pa_nil))) pa_nil)))) (pe_one (pe_cmpR (op_eqD hr.units) (g_meth0 (pv 9) K_Lattice M_Lattice_given (hr.mono (by decide))) (pv 6) (nomark _)))))))))) (fun vs H Q E h => rd_law_places_alike h)
abbrev st_law : Stmt := top 78
theorem sc_law : FnScope ["script", "purse", "width", "first", "second", "inner", "one", "row", "other", "third", "pack", "units", "place", "packs", "value", "due", "turn", "box", "rows"] ["script"] (defScope st_law) := ⟨rfl, rfl, rfl, by decide +kernel, rfl, by decide +kernel, by decide +kernel⟩
theorem ok_law (T : Txt mg) (C_law_purse : Cal P w Z.K mg base 2 "_law_purse" (sp_law_purse Z)) (C_law_draw : Cal P w Z.K mg base 33 "_law_draw" (sp_law_draw Z)) (C_law_pack_rows : Cal P w Z.K mg base 34 "_law_pack_rows" (sp_law_pack_rows Z)) (C_law_rows_drawn : Cal P w Z.K mg base 36 "_law_rows_drawn" (sp_law_rows_drawn Z)) (C_law_inner_rows : Cal P w Z.K mg base 34 "_law_inner_rows" (sp_law_inner_rows Z)) (C_law_unit : Cal P w Z.K mg base 2 "_law_unit" (sp_law_unit Z)) (C_law_two_alike : Cal P w Z.K mg base 40 "_law_two_alike" (sp_law_two_alike Z)) (C_law_inner_alike : Cal P w Z.K mg base 37 "_law_inner_alike" (sp_law_inner_alike Z)) (C_law_cut_alike : Cal P w Z.K mg base 41 "_law_cut_alike" (sp_law_cut_alike Z)) (C_law_places_alike : Cal P w Z.K mg base 40 "_law_places_alike" (sp_law_places_alike Z)) (K_Lattice : Cls Z.K (Z.cls "Lattice")) (M_Lattice_classes : Met P w Z.K mg base (Z.cls "Lattice") 36 "classes" (sp_Lattice_classes Z)) (M_Lattice_within : Met P w Z.K mg base (Z.cls "Lattice") 35 "within" (sp_Lattice_within Z)) (M_Lattice_same : Met P w Z.K mg base (Z.cls "Lattice") 3 "same" (sp_Lattice_same Z)) (M_Lattice : Mak P w Z.K mg base (Z.cls "Lattice") 36 "Lattice" (sp_Lattice___init__ Z)) {fa : Addr} {fd : FuncData} (A : Fun Z.K "law" "law" st_law fa fd) : FnOk P w Z.K mg base CX0 42 fa fd ["script"] (sp_law Z) :=
  fn_mk (k := 41) (t := r_law Z) A sc_law (fun _ _ _ _ => ln_law) (fun f cdv A outer s H E hr => (pss_cons (ps_set (i := 1) sc_law.nd rfl (.inl rfl) (g_call C_law_purse (hr.mono (by decide)) rfl (pa_cons (pv 0) (pa_cons pe_int pa_nil)))) (pss_cons (ps_set (i := 2) sc_law.nd rfl (.inr rfl) (pe_op op_add pe_int (g_call C_law_draw (hr.mono (by decide)) rfl (pa_cons (pv 1) (pa_cons pe_int pa_nil))))) (pss_cons (ps_set (i := 3) sc_law.nd rfl (.inl rfl) (pe_ifExp (pt_cmpR op_eq (g_call C_law_draw (hr.mono (by decide)) rfl (pa_cons (pv 1) (pa_cons pe_int pa_nil))) pe_int (nomark _)) (g_call C_law_pack_rows (hr.mono (by decide)) rfl (pa_cons (pv 1) (pa_cons (pv 2) pa_nil))) (g_call C_law_rows_drawn (hr.mono (by decide)) rfl (pa_cons (pv 1) (pa_cons (pv 2) (pa_cons pe_int pa_nil)))))) (pss_cons (ps_set (i := 4) sc_law.nd rfl (.inl rfl) (pe_ifExp (pt_cmpR op_eq (g_call C_law_draw (hr.mono (by decide)) rfl (pa_cons (pv 1) (pa_cons pe_int pa_nil))) pe_int (nomark _)) (pe_op op_cat (pv 3) (g_call C_law_rows_drawn (hr.mono (by decide)) rfl (pa_cons (pv 1) (pa_cons (pv 2) (pa_cons pe_int pa_nil))))) (g_call C_law_rows_drawn (hr.mono (by decide)) rfl (pa_cons (pv 1) (pa_cons (pv 2) (pa_cons pe_int pa_nil)))))) (pss_cons (ps_set (i := 5) sc_law.nd rfl (.inl rfl) (g_call C_law_inner_rows (hr.mono (by decide)) rfl (pa_cons (pv 1) (pa_cons (pv 3) (pa_cons (pv 2) pa_nil))))) (pss_cons (ps_set (i := 6) sc_law.nd rfl (.inl rfl) (g_make M_Lattice (hr.mono (by decide)) rfl (pa_cons (pv 2) (pa_cons (pe_lc (own := [("row", 7)]) (by rfl) sc_law.nd (pi_list (pv 3)) (blkOk_by (own := [("row", 7)]) (N := nm_law) (sc := defScope st_law) (by decide +kernel)) (fun _ _ _ _ _ => (pg_name (i := 7) sc_law.nd rfl (Or.inl rfl))) (fun _ _ _ _ _ => pts_nil) (fun _ _ _ _ _ => (pe_callTy (T := "list") c_list (by rfl) T.b_list (by decide +kernel) (pa_cons (pv 7) pa_nil)))) pa_nil)))) (pss_cons (ps_set (i := 8) sc_law.nd rfl (.inl rfl) (g_make M_Lattice (hr.mono (by decide)) rfl (pa_cons (pv 2) (pa_cons (pe_lc (own := [("row", 7)]) (by rfl) sc_law.nd (pi_list (pv 4)) (blkOk_by (own := [("row", 7)]) (N := nm_law) (sc := defScope st_law) (by decide +kernel)) (fun _ _ _ _ _ => (pg_name (i := 7) sc_law.nd rfl (Or.inl rfl))) (fun _ _ _ _ _ => pts_nil) (fun _ _ _ _ _ => (pe_callTy (T := "list") c_list (by rfl) T.b_list (by decide +kernel) (pa_cons (pv 7) pa_nil)))) pa_nil)))) (pss_cons (ps_set (i := 9) sc_law.nd rfl (.inl rfl) (g_make M_Lattice (hr.mono (by decide)) rfl (pa_cons (pv 2) (pa_cons (pe_lc (own := [("row", 7)]) (by rfl) sc_law.nd (pi_list (pv 5)) (blkOk_by (own := [("row", 7)]) (N := nm_law) (sc := defScope st_law) (by decide +kernel)) (fun _ _ _ _ _ => (pg_name (i := 7) sc_law.nd rfl (Or.inl rfl))) (fun _ _ _ _ _ => pts_nil) (fun _ _ _ _ _ => (pe_callTy (T := "list") c_list (by rfl) T.b_list (by decide +kernel) (pa_cons (pv 7) pa_nil)))) pa_nil)))) (pss_cons (ps_set (i := 10) sc_law.nd rfl (.inr rfl) (pe_op op_add pe_int (g_call C_law_draw (hr.mono (by decide)) rfl (pa_cons (pv 1) (pa_cons pe_int pa_nil))))) (pss_cons (ps_set (i := 11) sc_law.nd rfl (.inl rfl) (g_make M_Lattice (hr.mono (by decide)) rfl (pa_cons (pv 2) (pa_cons (pe_lc (own := [("place", 12)]) (by rfl) sc_law.nd (pi_range1 rfl T.b_range (pa_cons (pv 2) pa_nil)) (blkOk_by (own := [("place", 12)]) (N := nm_law) (sc := defScope st_law) (by decide +kernel)) (fun _ _ _ _ _ => (pg_name (i := 12) sc_law.nd rfl (Or.inl rfl))) (fun _ _ _ _ _ => pts_nil) (fun _ _ _ _ _ => (g_call C_law_unit (hr.mono (by decide)) rfl (pa_cons (pv 2) (pa_cons (pv 12) pa_nil))))) pa_nil)))) (pss_cons (ps_set (i := 13) sc_law.nd rfl (.inl rfl) (g_make M_Lattice (hr.mono (by decide)) rfl (pa_cons (pv 2) (pa_cons (pe_lc (own := [("place", 12)]) (by rfl) sc_law.nd (pi_range1 rfl T.b_range (pa_cons (pv 2) pa_nil)) (blkOk_by (own := [("place", 12)]) (N := nm_law) (sc := defScope st_law) (by decide +kernel)) (fun _ _ _ _ _ => (pg_name (i := 12) sc_law.nd rfl (Or.inl rfl))) (fun _ _ _ _ _ => pts_nil) (fun _ _ _ _ _ => (pe_lc (own := [("value", 14)]) (by rfl) sc_law.nd (pi_list (g_call C_law_unit (hr.mono (by decide)) rfl (pa_cons (pv 2) (pa_cons (pv 12) pa_nil)))) (blkOk_by (own := [("value", 14)]) (by kernel_rfl)) (fun _ _ _ _ _ => (pg_name (i := 14) sc_law.nd rfl (Or.inl rfl))) (fun _ _ _ _ _ => pts_nil) (fun _ _ _ _ _ => (pe_op op_mulG (pv 10) (pv 14)))))) pa_nil)))) (pss_cons (ps_set (i := 15) sc_law.nd rfl (.inl rfl) pe_int) (pss_cons (ps_for PassesOwn.never rfl (pi_range1 rfl T.b_range (pa_cons (pv 2) pa_nil)) (pg_name (i := 12) sc_law.nd rfl (.inl rfl)) (pss_one (ps_set (i := 15) sc_law.nd rfl (.inl rfl) (pe_op op_mulG (pv 15) (pv 10))))) (pss_cons (ps_for PassesOwn.never rfl (pi_range1 rfl T.b_range (pa_cons pe_int pa_nil)) (pg_name (i := 16) sc_law.nd rfl (.inl rfl)) (pss_cons (ps_if (PW.pt (pw_or (pt_cmpR op_ne (g_meth (pv 13) K_Lattice M_Lattice_classes (hr.mono (by decide)) (pa_cons (pv 11) pa_nil)) (pv 15) (nomark _)) (pw_or (pt_cmpR (op_neD hr.units) (g_meth (pv 11) K_Lattice M_Lattice_within (hr.mono (by decide)) (pa_cons (pv 13) pa_nil)) (g_call C_law_unit (hr.mono (by decide)) rfl (pa_cons (pv 2) (pa_cons pe_int pa_nil))) (nomark _)) (pw_or1 (pt_cmpR op_notBl (g_meth (pv 11) K_Lattice M_Lattice_same (hr.mono (by decide)) (pa_cons (pv 13) pa_nil)) pe_bl (nomark _)))))) (pss_one (ps_ret pe_bl)) pss_nil) (pss_cons (ps_if (PW.pt (pw_or (pt_not (pt_val (g_call C_law_two_alike (hr.mono (by decide)) rfl (pa_cons (pv 6) (pa_cons (pv 8) (pa_cons (pv 3) (pa_cons (pv 4) (pa_cons (pv 2) pa_nil)))))))) (pw_or1 (pt_not (pt_val (g_call C_law_two_alike (hr.mono (by decide)) rfl (pa_cons (pv 8) (pa_cons (pv 9) (pa_cons (pv 4) (pa_cons (pv 5) (pa_cons (pv 2) pa_nil))))))))))) (pss_one (ps_ret pe_bl)) pss_nil) (pss_cons (ps_if (pt_not (pt_val (g_call C_law_inner_alike (hr.mono (by decide)) rfl (pa_cons (pv 9) (pa_cons (pv 6) (pa_cons (pv 5) (pa_cons (pv 3) (pa_cons (pv 2) pa_nil)))))))) (pss_one (ps_ret pe_bl)) pss_nil) (pss_one (ps_for PassesOwn.never rfl (pi_list (pe_lst (pa_cons (pe_tup (pa_cons (pv 6) (pa_cons (pv 3) pa_nil))) (pa_cons (pe_tup (pa_cons (pv 8) (pa_cons (pv 4) pa_nil))) pa_nil)))) (pg_tup rfl (pgs_cons (pg_name (i := 17) sc_law.nd rfl (.inl rfl)) (pgs_cons (pg_name (i := 18) sc_law.nd rfl (.inl rfl)) pgs_nil))) (pss_one (ps_if (PW.pt (pw_or (pt_not (pt_val (g_call C_law_cut_alike (hr.mono (by decide)) rfl (pa_cons (pv 1) (pa_cons (pv 17) (pa_cons (pv 18) (pa_cons (pv 2) pa_nil))))))) (pw_or1 (pt_not (pt_val (g_call C_law_places_alike (hr.mono (by decide)) rfl (pa_cons (pv 1) (pa_cons (pv 17) (pa_cons (pv 18) (pa_cons (pv 2) pa_nil)))))))))) (pss_one (ps_ret pe_bl)) pss_nil)))))))) (pss_one (ps_ret pe_bl))))))))))))))))) (fun vs H Q E h => rd_law h)
end
theorem prom_law {K : PySem.W.Frag} {H : Hp} {a : Addr} {ns : List Int} {E : XK} (hl : ns.length ≤ 63) (hS : SqL K H a (ns.map V.int)) : sp_law ⟨K, fun _ => 0⟩ [.ref a] H (fun v _ => v = .bl true) E := ⟨a, ns, rfl, hS, by omega, fun _ => rfl⟩
theorem all_law {P : Program} {w : World} {Z : Ctx} {mg : Str → Option Value} {base : Heap} {fa : Addr} {fd : FuncData}
    (LC : LatCls Z)
    (K_Lattice : Cls Z.K (Z.cls "Lattice"))
    (T : Txt mg)
    (hs : base.NoSeer)
    (ht : P.given.tree = none)
    (A_law_purse : At Z.K mg "_law_purse" st_law_purse)
    (A_law_draw : At Z.K mg "_law_draw" st_law_draw)
    (A_law_pack_rows : At Z.K mg "_law_pack_rows" st_law_pack_rows)
    (A_law_number : At Z.K mg "_law_number" st_law_number)
    (A_law_row_drawn : At Z.K mg "_law_row_drawn" st_law_row_drawn)
    (A_law_rows_drawn : At Z.K mg "_law_rows_drawn" st_law_rows_drawn)
    (A_law_mixed : At Z.K mg "_law_mixed" st_law_mixed)
    (A_law_inner_rows : At Z.K mg "_law_inner_rows" st_law_inner_rows)
    (A_law_unit : At Z.K mg "_law_unit" st_law_unit)
    (A_law_less : At Z.K mg "_law_less" st_law_less)
    (A_law_pull : At Z.K mg "_law_pull" st_law_pull)
    (A_law_stairs_rest : At Z.K mg "_law_stairs_rest" st_law_stairs_rest)
    (A_law_stairs : At Z.K mg "_law_stairs" st_law_stairs)
    (A_law_zero : At Z.K mg "_law_zero" st_law_zero)
    (A_law_reduced : At Z.K mg "_law_reduced" st_law_reduced)
    (A_law_held : At Z.K mg "_law_held" st_law_held)
    (A_law_within_first : At Z.K mg "_law_within_first" st_law_within_first)
    (A_Lattice_width : AtM Z.K (Z.cls "Lattice") "width" "Lattice.width" st_Lattice_width)
    (A_Lattice_rows : AtM Z.K (Z.cls "Lattice") "rows" "Lattice.rows" st_Lattice_rows)
    (A_Lattice_rank : AtM Z.K (Z.cls "Lattice") "rank" "Lattice.rank" st_Lattice_rank)
    (A_law_is_lattice : At Z.K mg "_law_is_lattice" st_law_is_lattice)
    (A_check_width : At Z.K mg "check_width" st_check_width)
    (A_is_zero : At Z.K mg "is_zero" st_is_zero)
    (A_lead_place : At Z.K mg "lead_place" st_lead_place)
    (A_lessened_row : At Z.K mg "lessened_row" st_lessened_row)
    (A_reduced_row : At Z.K mg "reduced_row" st_reduced_row)
    (A_is_held : At Z.K mg "is_held" st_is_held)
    (A_Lattice_within : AtM Z.K (Z.cls "Lattice") "within" "Lattice.within" st_Lattice_within)
    (A_Lattice_same : AtM Z.K (Z.cls "Lattice") "same" "Lattice.same" st_Lattice_same)
    (A_least_busy : At Z.K mg "least_busy" st_least_busy)
    (A_scaled_row : At Z.K mg "scaled_row" st_scaled_row)
    (A_pulled_row : At Z.K mg "pulled_row" st_pulled_row)
    (A_stairs_and_rest : At Z.K mg "stairs_and_rest" st_stairs_and_rest)
    (A_stairs_of : At Z.K mg "stairs_of" st_stairs_of)
    (A_check_most : At Z.K mg "check_most" st_check_most)
    (A_check_numbers : At Z.K mg "check_numbers" st_check_numbers)
    (A_is_whole : At Z.K mg "is_whole" st_is_whole)
    (A_whole_list : At Z.K mg "whole_list" st_whole_list)
    (A_check_rows : At Z.K mg "check_rows" st_check_rows)
    (A_Lattice___init__ : AtI Z.K mg (Z.cls "Lattice") "Lattice" "Lattice.__init__" st_Lattice___init__)
    (A_lattice_of : At Z.K mg "lattice_of" st_lattice_of)
    (A_Lattice_joined : AtM Z.K (Z.cls "Lattice") "joined" "Lattice.joined" st_Lattice_joined)
    (A_Lattice_given : AtM Z.K (Z.cls "Lattice") "given" "Lattice.given" st_Lattice_given)
    (A_law_two_alike : At Z.K mg "_law_two_alike" st_law_two_alike)
    (A_law_leads : At Z.K mg "_law_leads" st_law_leads)
    (A_law_index : At Z.K mg "_law_index" st_law_index)
    (A_stair_amounts : At Z.K mg "stair_amounts" st_stair_amounts)
    (A_Lattice_classes : AtM Z.K (Z.cls "Lattice") "classes" "Lattice.classes" st_Lattice_classes)
    (A_law_inner_alike : At Z.K mg "_law_inner_alike" st_law_inner_alike)
    (A_law_weights_drawn : At Z.K mg "_law_weights_drawn" st_law_weights_drawn)
    (A_law_dot : At Z.K mg "_law_dot" st_law_dot)
    (A_law_shows : At Z.K mg "_law_shows" st_law_shows)
    (A_law_cut : At Z.K mg "_law_cut" st_law_cut)
    (A_law_far_number : At Z.K mg "_law_far_number" st_law_far_number)
    (A_law_shown : At Z.K mg "_law_shown" st_law_shown)
    (A_law_is_row : At Z.K mg "_law_is_row" st_law_is_row)
    (A_law_shows_values : At Z.K mg "_law_shows_values" st_law_shows_values)
    (A_law_gcd : At Z.K mg "_law_gcd" st_law_gcd)
    (A_law_common : At Z.K mg "_law_common" st_law_common)
    (A_check_asked : At Z.K mg "check_asked" st_check_asked)
    (A_dot_product : At Z.K mg "dot_product" st_dot_product)
    (A_shown_rows : At Z.K mg "shown_rows" st_shown_rows)
    (A_cut_by : At Z.K mg "cut_by" st_cut_by)
    (A_cut_lattice : At Z.K mg "cut_lattice" st_cut_lattice)
    (A_Lattice_cut : AtM Z.K (Z.cls "Lattice") "cut" "Lattice.cut" st_Lattice_cut)
    (A_zero_row : At Z.K mg "zero_row" st_zero_row)
    (A_shown_row : At Z.K mg "shown_row" st_shown_row)
    (A_Lattice_shown : AtM Z.K (Z.cls "Lattice") "shown" "Lattice.shown" st_Lattice_shown)
    (A_greatest_common : At Z.K mg "greatest_common" st_greatest_common)
    (A_common_of : At Z.K mg "common_of" st_common_of)
    (A_Lattice_common : AtM Z.K (Z.cls "Lattice") "common" "Lattice.common" st_Lattice_common)
    (A_law_cut_alike : At Z.K mg "_law_cut_alike" st_law_cut_alike)
    (A_Lattice_at_places : AtM Z.K (Z.cls "Lattice") "at_places" "Lattice.at_places" st_Lattice_at_places)
    (A_law_places_alike : At Z.K mg "_law_places_alike" st_law_places_alike)
    (A_law : Fun Z.K "law" "law" st_law fa fd) :
    FnOk P w Z.K mg base CX0 42 fa fd ["script"] (sp_law Z) := by
  have D_law_purse := ok_law_purse (P := P) (w := w) (Z := Z) (mg := mg) (base := base) T A_law_purse
  have D_law_draw := ok_law_draw (P := P) (w := w) (Z := Z) (mg := mg) (base := base) T hs ht A_law_draw
  have D_law_pack_rows := ok_law_pack_rows (P := P) (w := w) (Z := Z) (mg := mg) (base := base) T D_law_draw A_law_pack_rows
  have D_law_number := ok_law_number (P := P) (w := w) (Z := Z) (mg := mg) (base := base) D_law_draw A_law_number
  have D_law_row_drawn := ok_law_row_drawn (P := P) (w := w) (Z := Z) (mg := mg) (base := base) T D_law_number A_law_row_drawn
  have D_law_rows_drawn := ok_law_rows_drawn (P := P) (w := w) (Z := Z) (mg := mg) (base := base) T D_law_draw D_law_row_drawn A_law_rows_drawn
  have D_law_mixed := ok_law_mixed (P := P) (w := w) (Z := Z) (mg := mg) (base := base) T A_law_mixed
  have D_law_inner_rows := ok_law_inner_rows (P := P) (w := w) (Z := Z) (mg := mg) (base := base) T D_law_draw D_law_mixed A_law_inner_rows
  have D_law_unit := ok_law_unit (P := P) (w := w) (Z := Z) (mg := mg) (base := base) T A_law_unit
  have D_law_less := ok_law_less (P := P) (w := w) (Z := Z) (mg := mg) (base := base) T A_law_less
  have D_law_pull := ok_law_pull (P := P) (w := w) (Z := Z) (mg := mg) (base := base) T hs ht D_law_less A_law_pull
  have D_law_stairs_rest := ok_law_stairs_rest (P := P) (w := w) (Z := Z) (mg := mg) (base := base) T hs ht D_law_pull D_law_less A_law_stairs_rest
  have D_law_stairs := ok_law_stairs (P := P) (w := w) (Z := Z) (mg := mg) (base := base) D_law_stairs_rest A_law_stairs
  have D_law_zero := ok_law_zero (P := P) (w := w) (Z := Z) (mg := mg) (base := base) T A_law_zero
  have D_law_reduced := ok_law_reduced (P := P) (w := w) (Z := Z) (mg := mg) (base := base) T hs ht D_law_less A_law_reduced
  have D_law_held := ok_law_held (P := P) (w := w) (Z := Z) (mg := mg) (base := base) D_law_zero D_law_reduced A_law_held
  have D_law_within_first := ok_law_within_first (P := P) (w := w) (Z := Z) (mg := mg) (base := base) D_law_held A_law_within_first
  have D_Lattice_width := ok_Lattice_width (P := P) (w := w) (Z := Z) (mg := mg) (base := base) LC A_Lattice_width
  have D_Lattice_rows := ok_Lattice_rows (P := P) (w := w) (Z := Z) (mg := mg) (base := base) T LC A_Lattice_rows
  have D_Lattice_rank := ok_Lattice_rank (P := P) (w := w) (Z := Z) (mg := mg) (base := base) T LC A_Lattice_rank
  have D_law_is_lattice := ok_law_is_lattice (P := P) (w := w) (Z := Z) (mg := mg) (base := base) T K_Lattice D_Lattice_width D_Lattice_rows D_Lattice_rank A_law_is_lattice
  have D_check_width := ok_check_width (P := P) (w := w) (Z := Z) (mg := mg) (base := base) LC A_check_width
  have D_is_zero := ok_is_zero (P := P) (w := w) (Z := Z) (mg := mg) (base := base)  A_is_zero
  have D_lead_place := ok_lead_place (P := P) (w := w) (Z := Z) (mg := mg) (base := base) T A_lead_place
  have D_lessened_row := ok_lessened_row (P := P) (w := w) (Z := Z) (mg := mg) (base := base) T A_lessened_row
  have D_reduced_row := ok_reduced_row (P := P) (w := w) (Z := Z) (mg := mg) (base := base) T hs ht D_lead_place D_lessened_row A_reduced_row
  have D_is_held := ok_is_held (P := P) (w := w) (Z := Z) (mg := mg) (base := base) D_is_zero D_reduced_row LC A_is_held
  have D_Lattice_within := ok_Lattice_within (P := P) (w := w) (Z := Z) (mg := mg) (base := base) T D_check_width D_is_held LC A_Lattice_within
  have D_Lattice_same := ok_Lattice_same (P := P) (w := w) (Z := Z) (mg := mg) (base := base) D_check_width LC A_Lattice_same
  have D_least_busy := ok_least_busy (P := P) (w := w) (Z := Z) (mg := mg) (base := base) T A_least_busy
  have D_scaled_row := ok_scaled_row (P := P) (w := w) (Z := Z) (mg := mg) (base := base)  A_scaled_row
  have D_pulled_row := ok_pulled_row (P := P) (w := w) (Z := Z) (mg := mg) (base := base) T hs ht D_least_busy D_lessened_row D_scaled_row A_pulled_row
  have D_stairs_and_rest := ok_stairs_and_rest (P := P) (w := w) (Z := Z) (mg := mg) (base := base) T hs ht D_pulled_row D_lessened_row A_stairs_and_rest
  have D_stairs_of := ok_stairs_of (P := P) (w := w) (Z := Z) (mg := mg) (base := base) D_stairs_and_rest A_stairs_of
  have D_check_most := ok_check_most (P := P) (w := w) (Z := Z) (mg := mg) (base := base) T A_check_most
  have D_check_numbers := ok_check_numbers (P := P) (w := w) (Z := Z) (mg := mg) (base := base) T A_check_numbers
  have D_is_whole := ok_is_whole (P := P) (w := w) (Z := Z) (mg := mg) (base := base) T A_is_whole
  have D_whole_list := ok_whole_list (P := P) (w := w) (Z := Z) (mg := mg) (base := base) T D_is_whole A_whole_list
  have D_check_rows := ok_check_rows (P := P) (w := w) (Z := Z) (mg := mg) (base := base) T D_whole_list A_check_rows
  have D_Lattice___init__ := ok_Lattice___init__ (P := P) (w := w) (Z := Z) (mg := mg) (base := base) T D_check_most D_check_numbers D_check_rows D_stairs_of LC A_Lattice___init__
  have D_lattice_of := ok_lattice_of (P := P) (w := w) (Z := Z) (mg := mg) (base := base) T D_stairs_of D_Lattice___init__ LC A_lattice_of
  have D_Lattice_joined := ok_Lattice_joined (P := P) (w := w) (Z := Z) (mg := mg) (base := base) D_check_width D_lattice_of LC A_Lattice_joined
  have D_Lattice_given := ok_Lattice_given (P := P) (w := w) (Z := Z) (mg := mg) (base := base) T LC A_Lattice_given
  have D_law_two_alike := ok_law_two_alike (P := P) (w := w) (Z := Z) (mg := mg) (base := base) D_law_stairs D_law_within_first D_law_is_lattice K_Lattice D_Lattice_within D_Lattice_same D_Lattice_joined D_Lattice_given D_Lattice_rows A_law_two_alike
  have D_law_leads := ok_law_leads (P := P) (w := w) (Z := Z) (mg := mg) (base := base)  A_law_leads
  have D_law_index := ok_law_index (P := P) (w := w) (Z := Z) (mg := mg) (base := base) T hs ht D_law_leads A_law_index
  have D_stair_amounts := ok_stair_amounts (P := P) (w := w) (Z := Z) (mg := mg) (base := base) T hs ht D_lead_place D_lessened_row D_is_zero A_stair_amounts
  have D_Lattice_classes := ok_Lattice_classes (P := P) (w := w) (Z := Z) (mg := mg) (base := base) T D_stairs_of D_stair_amounts K_Lattice D_Lattice_within D_Lattice_rank LC A_Lattice_classes
  have D_law_inner_alike := ok_law_inner_alike (P := P) (w := w) (Z := Z) (mg := mg) (base := base) T D_law_index D_law_stairs K_Lattice D_Lattice_classes D_Lattice_within A_law_inner_alike
  have D_law_weights_drawn := ok_law_weights_drawn (P := P) (w := w) (Z := Z) (mg := mg) (base := base) T D_law_draw A_law_weights_drawn
  have D_law_dot := ok_law_dot (P := P) (w := w) (Z := Z) (mg := mg) (base := base) T A_law_dot
  have D_law_shows := ok_law_shows (P := P) (w := w) (Z := Z) (mg := mg) (base := base) T D_law_dot A_law_shows
  have D_law_cut := ok_law_cut (P := P) (w := w) (Z := Z) (mg := mg) (base := base) T D_law_stairs_rest D_law_shows D_law_stairs A_law_cut
  have D_law_far_number := ok_law_far_number (P := P) (w := w) (Z := Z) (mg := mg) (base := base) D_law_draw A_law_far_number
  have D_law_shown := ok_law_shown (P := P) (w := w) (Z := Z) (mg := mg) (base := base) T D_law_stairs D_law_shows D_law_reduced D_law_zero A_law_shown
  have D_law_is_row := ok_law_is_row (P := P) (w := w) (Z := Z) (mg := mg) (base := base) T A_law_is_row
  have D_law_shows_values := ok_law_shows_values (P := P) (w := w) (Z := Z) (mg := mg) (base := base) D_law_is_row D_law_held D_law_stairs D_law_dot A_law_shows_values
  have D_law_gcd := ok_law_gcd (P := P) (w := w) (Z := Z) (mg := mg) (base := base) T A_law_gcd
  have D_law_common := ok_law_common (P := P) (w := w) (Z := Z) (mg := mg) (base := base) D_law_gcd D_law_dot A_law_common
  have D_check_asked := ok_check_asked (P := P) (w := w) (Z := Z) (mg := mg) (base := base) T D_check_numbers D_check_rows A_check_asked
  have D_dot_product := ok_dot_product (P := P) (w := w) (Z := Z) (mg := mg) (base := base) T A_dot_product
  have D_shown_rows := ok_shown_rows (P := P) (w := w) (Z := Z) (mg := mg) (base := base) T D_dot_product A_shown_rows
  have D_cut_by := ok_cut_by (P := P) (w := w) (Z := Z) (mg := mg) (base := base) T D_stairs_and_rest D_shown_rows D_stairs_of A_cut_by
  have D_cut_lattice := ok_cut_lattice (P := P) (w := w) (Z := Z) (mg := mg) (base := base) D_lattice_of D_cut_by LC A_cut_lattice
  have D_Lattice_cut := ok_Lattice_cut (P := P) (w := w) (Z := Z) (mg := mg) (base := base) D_check_asked D_cut_lattice LC A_Lattice_cut
  have D_zero_row := ok_zero_row (P := P) (w := w) (Z := Z) (mg := mg) (base := base)  A_zero_row
  have D_shown_row := ok_shown_row (P := P) (w := w) (Z := Z) (mg := mg) (base := base) T D_stairs_and_rest D_shown_rows D_reduced_row D_zero_row D_is_zero D_scaled_row A_shown_row
  have D_Lattice_shown := ok_Lattice_shown (P := P) (w := w) (Z := Z) (mg := mg) (base := base) T D_check_numbers D_check_asked D_whole_list D_shown_row LC A_Lattice_shown
  have D_greatest_common := ok_greatest_common (P := P) (w := w) (Z := Z) (mg := mg) (base := base) T A_greatest_common
  have D_common_of := ok_common_of (P := P) (w := w) (Z := Z) (mg := mg) (base := base) D_greatest_common D_dot_product LC A_common_of
  have D_Lattice_common := ok_Lattice_common (P := P) (w := w) (Z := Z) (mg := mg) (base := base) D_check_asked D_common_of LC A_Lattice_common
  have D_law_cut_alike := ok_law_cut_alike (P := P) (w := w) (Z := Z) (mg := mg) (base := base) T D_law_weights_drawn D_law_cut D_law_is_lattice D_law_mixed D_law_far_number D_law_dot D_law_draw D_law_shown D_law_shows_values D_law_common K_Lattice D_Lattice_cut D_Lattice_given D_Lattice_shown D_Lattice_common A_law_cut_alike
  have D_Lattice_at_places := ok_Lattice_at_places (P := P) (w := w) (Z := Z) (mg := mg) (base := base) T D_lattice_of LC A_Lattice_at_places
  have D_law_places_alike := ok_law_places_alike (P := P) (w := w) (Z := Z) (mg := mg) (base := base) T D_law_draw D_law_is_lattice D_law_stairs K_Lattice D_Lattice_at_places D_Lattice_given A_law_places_alike
  exact ok_law (P := P) (w := w) (Z := Z) (mg := mg) (base := base) T D_law_purse D_law_draw D_law_pack_rows D_law_rows_drawn D_law_inner_rows D_law_unit D_law_two_alike D_law_inner_alike D_law_cut_alike D_law_places_alike K_Lattice D_Lattice_classes D_Lattice_within D_Lattice_same D_Lattice___init__ A_law
theorem all_mk {l : PySem.W.OpenLaw} {w : World} {K : PySem.W.Frag} {h : Heap} {mg : Str → Option Value} {fa : Addr} (ht : l.prog.given.tree = none) (X : K.In h) (G : h.Ns mainGlobals mg) (hfa : mg "law" = some (.ref fa))
    {C_Lattice : Addr}
    {f0 : Addr} {d0 e0 : Option Addr} {s0 : Array (Option Value)} {v0 w0 x0 y0 z0 u0 : Value}
    {f1 : Addr} {d1 e1 : Option Addr} {s1 : Array (Option Value)} {v1 w1 x1 y1 z1 u1 : Value}
    {f2 : Addr} {d2 e2 : Option Addr} {s2 : Array (Option Value)} {v2 w2 x2 y2 z2 u2 : Value}
    {f3 : Addr} {d3 e3 : Option Addr} {s3 : Array (Option Value)} {v3 w3 x3 y3 z3 u3 : Value}
    {f4 : Addr} {d4 e4 : Option Addr} {s4 : Array (Option Value)} {v4 w4 x4 y4 z4 u4 : Value}
    {f5 : Addr} {d5 e5 : Option Addr} {s5 : Array (Option Value)} {v5 w5 x5 y5 z5 u5 : Value}
    {f6 : Addr} {d6 e6 : Option Addr} {s6 : Array (Option Value)} {v6 w6 x6 y6 z6 u6 : Value}
    {f7 : Addr} {d7 e7 : Option Addr} {s7 : Array (Option Value)} {v7 w7 x7 y7 z7 u7 : Value}
    {f8 : Addr} {d8 e8 : Option Addr} {s8 : Array (Option Value)} {v8 w8 x8 y8 z8 u8 : Value}
    {f9 : Addr} {d9 e9 : Option Addr} {s9 : Array (Option Value)} {v9 w9 x9 y9 z9 u9 : Value}
    {f10 : Addr} {d10 e10 : Option Addr} {s10 : Array (Option Value)} {v10 w10 x10 y10 z10 u10 : Value}
    {f11 : Addr} {d11 e11 : Option Addr} {s11 : Array (Option Value)} {v11 w11 x11 y11 z11 u11 : Value}
    {f12 : Addr} {d12 e12 : Option Addr} {s12 : Array (Option Value)} {v12 w12 x12 y12 z12 u12 : Value}
    {f13 : Addr} {d13 e13 : Option Addr} {s13 : Array (Option Value)} {v13 w13 x13 y13 z13 u13 : Value}
    {f14 : Addr} {d14 e14 : Option Addr} {s14 : Array (Option Value)} {v14 w14 x14 y14 z14 u14 : Value}
    {f15 : Addr} {d15 e15 : Option Addr} {s15 : Array (Option Value)} {v15 w15 x15 y15 z15 u15 : Value}
    {f16 : Addr} {d16 e16 : Option Addr} {s16 : Array (Option Value)} {v16 w16 x16 y16 z16 u16 : Value}
    {f17 : Addr} {d17 e17 : Option Addr} {s17 : Array (Option Value)} {v17 w17 x17 y17 z17 u17 : Value}
    {f18 : Addr} {d18 e18 : Option Addr} {s18 : Array (Option Value)} {v18 w18 x18 y18 z18 u18 : Value}
    {f19 : Addr} {d19 e19 : Option Addr} {s19 : Array (Option Value)} {v19 w19 x19 y19 z19 u19 : Value}
    {f20 : Addr} {d20 e20 : Option Addr} {s20 : Array (Option Value)} {v20 w20 x20 y20 z20 u20 : Value}
    {f21 : Addr} {d21 e21 : Option Addr} {s21 : Array (Option Value)} {v21 w21 x21 y21 z21 u21 : Value}
    {f22 : Addr} {d22 e22 : Option Addr} {s22 : Array (Option Value)} {v22 w22 x22 y22 z22 u22 : Value}
    {f23 : Addr} {d23 e23 : Option Addr} {s23 : Array (Option Value)} {v23 w23 x23 y23 z23 u23 : Value}
    {f24 : Addr} {d24 e24 : Option Addr} {s24 : Array (Option Value)} {v24 w24 x24 y24 z24 u24 : Value}
    {f25 : Addr} {d25 e25 : Option Addr} {s25 : Array (Option Value)} {v25 w25 x25 y25 z25 u25 : Value}
    {f26 : Addr} {d26 e26 : Option Addr} {s26 : Array (Option Value)} {v26 w26 x26 y26 z26 u26 : Value}
    {f27 : Addr} {d27 e27 : Option Addr} {s27 : Array (Option Value)} {v27 w27 x27 y27 z27 u27 : Value}
    {f28 : Addr} {d28 e28 : Option Addr} {s28 : Array (Option Value)} {v28 w28 x28 y28 z28 u28 : Value}
    {f29 : Addr} {d29 e29 : Option Addr} {s29 : Array (Option Value)} {v29 w29 x29 y29 z29 u29 : Value}
    {f30 : Addr} {d30 e30 : Option Addr} {s30 : Array (Option Value)} {v30 w30 x30 y30 z30 u30 : Value}
    {f31 : Addr} {d31 e31 : Option Addr} {s31 : Array (Option Value)} {v31 w31 x31 y31 z31 u31 : Value}
    {f32 : Addr} {d32 e32 : Option Addr} {s32 : Array (Option Value)} {v32 w32 x32 y32 z32 u32 : Value}
    {f33 : Addr} {d33 e33 : Option Addr} {s33 : Array (Option Value)} {v33 w33 x33 y33 z33 u33 : Value}
    {f34 : Addr} {d34 e34 : Option Addr} {s34 : Array (Option Value)} {v34 w34 x34 y34 z34 u34 : Value}
    {f35 : Addr} {d35 e35 : Option Addr} {s35 : Array (Option Value)} {v35 w35 x35 y35 z35 u35 : Value}
    {f36 : Addr} {d36 e36 : Option Addr} {s36 : Array (Option Value)} {v36 w36 x36 y36 z36 u36 : Value}
    {f37 : Addr} {d37 e37 : Option Addr} {s37 : Array (Option Value)} {v37 w37 x37 y37 z37 u37 : Value}
    {f38 : Addr} {d38 e38 : Option Addr} {s38 : Array (Option Value)} {v38 w38 x38 y38 z38 u38 : Value}
    {f39 : Addr} {d39 e39 : Option Addr} {s39 : Array (Option Value)} {v39 w39 x39 y39 z39 u39 : Value}
    {f40 : Addr} {d40 e40 : Option Addr} {s40 : Array (Option Value)} {v40 w40 x40 y40 z40 u40 : Value}
    {f41 : Addr} {d41 e41 : Option Addr} {s41 : Array (Option Value)} {v41 w41 x41 y41 z41 u41 : Value}
    {f42 : Addr} {d42 e42 : Option Addr} {s42 : Array (Option Value)} {v42 w42 x42 y42 z42 u42 : Value}
    {f43 : Addr} {d43 e43 : Option Addr} {s43 : Array (Option Value)} {v43 w43 x43 y43 z43 u43 : Value}
    {f44 : Addr} {d44 e44 : Option Addr} {s44 : Array (Option Value)} {v44 w44 x44 y44 z44 u44 : Value}
    {f45 : Addr} {d45 e45 : Option Addr} {s45 : Array (Option Value)} {v45 w45 x45 y45 z45 u45 : Value}
    {f46 : Addr} {d46 e46 : Option Addr} {s46 : Array (Option Value)} {v46 w46 x46 y46 z46 u46 : Value}
    {f47 : Addr} {d47 e47 : Option Addr} {s47 : Array (Option Value)} {v47 w47 x47 y47 z47 u47 : Value}
    {f48 : Addr} {d48 e48 : Option Addr} {s48 : Array (Option Value)} {v48 w48 x48 y48 z48 u48 : Value}
    {f49 : Addr} {d49 e49 : Option Addr} {s49 : Array (Option Value)} {v49 w49 x49 y49 z49 u49 : Value}
    {f50 : Addr} {d50 e50 : Option Addr} {s50 : Array (Option Value)} {v50 w50 x50 y50 z50 u50 : Value}
    {f51 : Addr} {d51 e51 : Option Addr} {s51 : Array (Option Value)} {v51 w51 x51 y51 z51 u51 : Value}
    {f52 : Addr} {d52 e52 : Option Addr} {s52 : Array (Option Value)} {v52 w52 x52 y52 z52 u52 : Value}
    {f53 : Addr} {d53 e53 : Option Addr} {s53 : Array (Option Value)} {v53 w53 x53 y53 z53 u53 : Value}
    {f54 : Addr} {d54 e54 : Option Addr} {s54 : Array (Option Value)} {v54 w54 x54 y54 z54 u54 : Value}
    {f55 : Addr} {d55 e55 : Option Addr} {s55 : Array (Option Value)} {v55 w55 x55 y55 z55 u55 : Value}
    {f56 : Addr} {d56 e56 : Option Addr} {s56 : Array (Option Value)} {v56 w56 x56 y56 z56 u56 : Value}
    {f57 : Addr} {d57 e57 : Option Addr} {s57 : Array (Option Value)} {v57 w57 x57 y57 z57 u57 : Value}
    {f58 : Addr} {d58 e58 : Option Addr} {s58 : Array (Option Value)} {v58 w58 x58 y58 z58 u58 : Value}
    {f59 : Addr} {d59 e59 : Option Addr} {s59 : Array (Option Value)} {v59 w59 x59 y59 z59 u59 : Value}
    {f60 : Addr} {d60 e60 : Option Addr} {s60 : Array (Option Value)} {v60 w60 x60 y60 z60 u60 : Value}
    {f61 : Addr} {d61 e61 : Option Addr} {s61 : Array (Option Value)} {v61 w61 x61 y61 z61 u61 : Value}
    {f62 : Addr} {d62 e62 : Option Addr} {s62 : Array (Option Value)} {v62 w62 x62 y62 z62 u62 : Value}
    {f63 : Addr} {d63 e63 : Option Addr} {s63 : Array (Option Value)} {v63 w63 x63 y63 z63 u63 : Value}
    {f64 : Addr} {d64 e64 : Option Addr} {s64 : Array (Option Value)} {v64 w64 x64 y64 z64 u64 : Value}
    {f65 : Addr} {d65 e65 : Option Addr} {s65 : Array (Option Value)} {v65 w65 x65 y65 z65 u65 : Value}
    {f66 : Addr} {d66 e66 : Option Addr} {s66 : Array (Option Value)} {v66 w66 x66 y66 z66 u66 : Value}
    {f67 : Addr} {d67 e67 : Option Addr} {s67 : Array (Option Value)} {v67 w67 x67 y67 z67 u67 : Value}
    {f68 : Addr} {d68 e68 : Option Addr} {s68 : Array (Option Value)} {v68 w68 x68 y68 z68 u68 : Value}
    {f69 : Addr} {d69 e69 : Option Addr} {s69 : Array (Option Value)} {v69 w69 x69 y69 z69 u69 : Value}
    {f70 : Addr} {d70 e70 : Option Addr} {s70 : Array (Option Value)} {v70 w70 x70 y70 z70 u70 : Value}
    {f71 : Addr} {d71 e71 : Option Addr} {s71 : Array (Option Value)} {v71 w71 x71 y71 z71 u71 : Value}
    {f72 : Addr} {d72 e72 : Option Addr} {s72 : Array (Option Value)} {v72 w72 x72 y72 z72 u72 : Value}
    {f73 : Addr} {d73 e73 : Option Addr} {s73 : Array (Option Value)} {v73 w73 x73 y73 z73 u73 : Value}
    {f74 : Addr} {d74 e74 : Option Addr} {s74 : Array (Option Value)} {v74 w74 x74 y74 z74 u74 : Value}
    {t_BOOKS : Tok}
    {t_ROWS : Tok}
    {t_NUMBERS : Tok}
    {t_AMOUNTS : Tok}
    (n_Lattice : PySem.W.nsIn K mainGlobals "Lattice" = some (some (.ref C_Lattice)))
    (p_Lattice : PySem.W.plainGet K C_Lattice Str.empty = true)
    (h_Lattice : PySem.W.hasDictIn K C_Lattice = true)
    (o_Lattice : PySem.W.plainOver K C_Lattice = true)
    (s_Lattice : PySem.W.findIn K (.ref C_Lattice) "__setattr__" = some (some (.builtin "object.__setattr__")))
    (m_Lattice : PySem.W.makesIn K C_Lattice = true)
    (k_Lattice : PySem.W.keepIn K (.ref C_Lattice) = true)
    (f_Lattice_row_width : PySem.W.findIn K (.ref C_Lattice) "row_width" = some none)
    (f_Lattice_given_rows : PySem.W.findIn K (.ref C_Lattice) "given_rows" = some none)
    (f_Lattice_normal_rows : PySem.W.findIn K (.ref C_Lattice) "normal_rows" = some none)
    (f_Lattice_kept_list : PySem.W.findIn K (.ref C_Lattice) "kept_list" = some none)
    (a0 : PySem.W.nsIn K mainGlobals "_law_purse" = some (some (.ref f0)))
    (l0 : K.lookup f0 = some ⟨v0, d0, .func (PySem.W.fnOf "_law_purse" "_law_purse" (defArgs st_law_purse) (defBody st_law_purse) (defScope st_law_purse) .none w0 x0 y0 e0 z0 u0), s0⟩)
    (c0 : PySem.W.codeIn K z0 "_law_purse" = true)
    (k0 : PySem.W.keepIn K (.ref f0) = true)
    (a1 : PySem.W.nsIn K mainGlobals "_law_draw" = some (some (.ref f1)))
    (l1 : K.lookup f1 = some ⟨v1, d1, .func (PySem.W.fnOf "_law_draw" "_law_draw" (defArgs st_law_draw) (defBody st_law_draw) (defScope st_law_draw) .none w1 x1 y1 e1 z1 u1), s1⟩)
    (c1 : PySem.W.codeIn K z1 "_law_draw" = true)
    (k1 : PySem.W.keepIn K (.ref f1) = true)
    (a2 : PySem.W.nsIn K mainGlobals "_law_pack_rows" = some (some (.ref f2)))
    (l2 : K.lookup f2 = some ⟨v2, d2, .func (PySem.W.fnOf "_law_pack_rows" "_law_pack_rows" (defArgs st_law_pack_rows) (defBody st_law_pack_rows) (defScope st_law_pack_rows) .none w2 x2 y2 e2 z2 u2), s2⟩)
    (c2 : PySem.W.codeIn K z2 "_law_pack_rows" = true)
    (k2 : PySem.W.keepIn K (.ref f2) = true)
    (a3 : PySem.W.nsIn K mainGlobals "_law_number" = some (some (.ref f3)))
    (l3 : K.lookup f3 = some ⟨v3, d3, .func (PySem.W.fnOf "_law_number" "_law_number" (defArgs st_law_number) (defBody st_law_number) (defScope st_law_number) .none w3 x3 y3 e3 z3 u3), s3⟩)
    (c3 : PySem.W.codeIn K z3 "_law_number" = true)
    (k3 : PySem.W.keepIn K (.ref f3) = true)
    (a4 : PySem.W.nsIn K mainGlobals "_law_row_drawn" = some (some (.ref f4)))
    (l4 : K.lookup f4 = some ⟨v4, d4, .func (PySem.W.fnOf "_law_row_drawn" "_law_row_drawn" (defArgs st_law_row_drawn) (defBody st_law_row_drawn) (defScope st_law_row_drawn) .none w4 x4 y4 e4 z4 u4), s4⟩)
    (c4 : PySem.W.codeIn K z4 "_law_row_drawn" = true)
    (k4 : PySem.W.keepIn K (.ref f4) = true)
    (a5 : PySem.W.nsIn K mainGlobals "_law_rows_drawn" = some (some (.ref f5)))
    (l5 : K.lookup f5 = some ⟨v5, d5, .func (PySem.W.fnOf "_law_rows_drawn" "_law_rows_drawn" (defArgs st_law_rows_drawn) (defBody st_law_rows_drawn) (defScope st_law_rows_drawn) .none w5 x5 y5 e5 z5 u5), s5⟩)
    (c5 : PySem.W.codeIn K z5 "_law_rows_drawn" = true)
    (k5 : PySem.W.keepIn K (.ref f5) = true)
    (a6 : PySem.W.nsIn K mainGlobals "_law_mixed" = some (some (.ref f6)))
    (l6 : K.lookup f6 = some ⟨v6, d6, .func (PySem.W.fnOf "_law_mixed" "_law_mixed" (defArgs st_law_mixed) (defBody st_law_mixed) (defScope st_law_mixed) .none w6 x6 y6 e6 z6 u6), s6⟩)
    (c6 : PySem.W.codeIn K z6 "_law_mixed" = true)
    (k6 : PySem.W.keepIn K (.ref f6) = true)
    (a7 : PySem.W.nsIn K mainGlobals "_law_inner_rows" = some (some (.ref f7)))
    (l7 : K.lookup f7 = some ⟨v7, d7, .func (PySem.W.fnOf "_law_inner_rows" "_law_inner_rows" (defArgs st_law_inner_rows) (defBody st_law_inner_rows) (defScope st_law_inner_rows) .none w7 x7 y7 e7 z7 u7), s7⟩)
    (c7 : PySem.W.codeIn K z7 "_law_inner_rows" = true)
    (k7 : PySem.W.keepIn K (.ref f7) = true)
    (a8 : PySem.W.nsIn K mainGlobals "_law_unit" = some (some (.ref f8)))
    (l8 : K.lookup f8 = some ⟨v8, d8, .func (PySem.W.fnOf "_law_unit" "_law_unit" (defArgs st_law_unit) (defBody st_law_unit) (defScope st_law_unit) .none w8 x8 y8 e8 z8 u8), s8⟩)
    (c8 : PySem.W.codeIn K z8 "_law_unit" = true)
    (k8 : PySem.W.keepIn K (.ref f8) = true)
    (a9 : PySem.W.nsIn K mainGlobals "_law_less" = some (some (.ref f9)))
    (l9 : K.lookup f9 = some ⟨v9, d9, .func (PySem.W.fnOf "_law_less" "_law_less" (defArgs st_law_less) (defBody st_law_less) (defScope st_law_less) .none w9 x9 y9 e9 z9 u9), s9⟩)
    (c9 : PySem.W.codeIn K z9 "_law_less" = true)
    (k9 : PySem.W.keepIn K (.ref f9) = true)
    (a10 : PySem.W.nsIn K mainGlobals "_law_pull" = some (some (.ref f10)))
    (l10 : K.lookup f10 = some ⟨v10, d10, .func (PySem.W.fnOf "_law_pull" "_law_pull" (defArgs st_law_pull) (defBody st_law_pull) (defScope st_law_pull) .none w10 x10 y10 e10 z10 u10), s10⟩)
    (c10 : PySem.W.codeIn K z10 "_law_pull" = true)
    (k10 : PySem.W.keepIn K (.ref f10) = true)
    (a11 : PySem.W.nsIn K mainGlobals "_law_stairs_rest" = some (some (.ref f11)))
    (l11 : K.lookup f11 = some ⟨v11, d11, .func (PySem.W.fnOf "_law_stairs_rest" "_law_stairs_rest" (defArgs st_law_stairs_rest) (defBody st_law_stairs_rest) (defScope st_law_stairs_rest) .none w11 x11 y11 e11 z11 u11), s11⟩)
    (c11 : PySem.W.codeIn K z11 "_law_stairs_rest" = true)
    (k11 : PySem.W.keepIn K (.ref f11) = true)
    (a12 : PySem.W.nsIn K mainGlobals "_law_stairs" = some (some (.ref f12)))
    (l12 : K.lookup f12 = some ⟨v12, d12, .func (PySem.W.fnOf "_law_stairs" "_law_stairs" (defArgs st_law_stairs) (defBody st_law_stairs) (defScope st_law_stairs) .none w12 x12 y12 e12 z12 u12), s12⟩)
    (c12 : PySem.W.codeIn K z12 "_law_stairs" = true)
    (k12 : PySem.W.keepIn K (.ref f12) = true)
    (a13 : PySem.W.nsIn K mainGlobals "_law_zero" = some (some (.ref f13)))
    (l13 : K.lookup f13 = some ⟨v13, d13, .func (PySem.W.fnOf "_law_zero" "_law_zero" (defArgs st_law_zero) (defBody st_law_zero) (defScope st_law_zero) .none w13 x13 y13 e13 z13 u13), s13⟩)
    (c13 : PySem.W.codeIn K z13 "_law_zero" = true)
    (k13 : PySem.W.keepIn K (.ref f13) = true)
    (a14 : PySem.W.nsIn K mainGlobals "_law_reduced" = some (some (.ref f14)))
    (l14 : K.lookup f14 = some ⟨v14, d14, .func (PySem.W.fnOf "_law_reduced" "_law_reduced" (defArgs st_law_reduced) (defBody st_law_reduced) (defScope st_law_reduced) .none w14 x14 y14 e14 z14 u14), s14⟩)
    (c14 : PySem.W.codeIn K z14 "_law_reduced" = true)
    (k14 : PySem.W.keepIn K (.ref f14) = true)
    (a15 : PySem.W.nsIn K mainGlobals "_law_held" = some (some (.ref f15)))
    (l15 : K.lookup f15 = some ⟨v15, d15, .func (PySem.W.fnOf "_law_held" "_law_held" (defArgs st_law_held) (defBody st_law_held) (defScope st_law_held) .none w15 x15 y15 e15 z15 u15), s15⟩)
    (c15 : PySem.W.codeIn K z15 "_law_held" = true)
    (k15 : PySem.W.keepIn K (.ref f15) = true)
    (a16 : PySem.W.nsIn K mainGlobals "_law_within_first" = some (some (.ref f16)))
    (l16 : K.lookup f16 = some ⟨v16, d16, .func (PySem.W.fnOf "_law_within_first" "_law_within_first" (defArgs st_law_within_first) (defBody st_law_within_first) (defScope st_law_within_first) .none w16 x16 y16 e16 z16 u16), s16⟩)
    (c16 : PySem.W.codeIn K z16 "_law_within_first" = true)
    (k16 : PySem.W.keepIn K (.ref f16) = true)
    (a17 : PySem.W.findIn K (.ref C_Lattice) "width" = some (some (.ref f17)))
    (i17 : PySem.W.isFn K (.ref f17) = true)
    (l17 : K.lookup f17 = some ⟨v17, d17, .func (PySem.W.fnOf "width" "Lattice.width" (defArgs st_Lattice_width) (defBody st_Lattice_width) (defScope st_Lattice_width) .none w17 x17 y17 e17 z17 u17), s17⟩)
    (c17 : PySem.W.codeIn K z17 "Lattice.width" = true)
    (k17 : PySem.W.keepIn K (.ref f17) = true)
    (a18 : PySem.W.findIn K (.ref C_Lattice) "rows" = some (some (.ref f18)))
    (i18 : PySem.W.isFn K (.ref f18) = true)
    (l18 : K.lookup f18 = some ⟨v18, d18, .func (PySem.W.fnOf "rows" "Lattice.rows" (defArgs st_Lattice_rows) (defBody st_Lattice_rows) (defScope st_Lattice_rows) .none w18 x18 y18 e18 z18 u18), s18⟩)
    (c18 : PySem.W.codeIn K z18 "Lattice.rows" = true)
    (k18 : PySem.W.keepIn K (.ref f18) = true)
    (a19 : PySem.W.findIn K (.ref C_Lattice) "rank" = some (some (.ref f19)))
    (i19 : PySem.W.isFn K (.ref f19) = true)
    (l19 : K.lookup f19 = some ⟨v19, d19, .func (PySem.W.fnOf "rank" "Lattice.rank" (defArgs st_Lattice_rank) (defBody st_Lattice_rank) (defScope st_Lattice_rank) .none w19 x19 y19 e19 z19 u19), s19⟩)
    (c19 : PySem.W.codeIn K z19 "Lattice.rank" = true)
    (k19 : PySem.W.keepIn K (.ref f19) = true)
    (a20 : PySem.W.nsIn K mainGlobals "_law_is_lattice" = some (some (.ref f20)))
    (l20 : K.lookup f20 = some ⟨v20, d20, .func (PySem.W.fnOf "_law_is_lattice" "_law_is_lattice" (defArgs st_law_is_lattice) (defBody st_law_is_lattice) (defScope st_law_is_lattice) .none w20 x20 y20 e20 z20 u20), s20⟩)
    (c20 : PySem.W.codeIn K z20 "_law_is_lattice" = true)
    (k20 : PySem.W.keepIn K (.ref f20) = true)
    (a21 : PySem.W.nsIn K mainGlobals "check_width" = some (some (.ref f21)))
    (l21 : K.lookup f21 = some ⟨v21, d21, .func (PySem.W.fnOf "check_width" "check_width" (defArgs st_check_width) (defBody st_check_width) (defScope st_check_width) .none w21 x21 y21 e21 z21 u21), s21⟩)
    (c21 : PySem.W.codeIn K z21 "check_width" = true)
    (k21 : PySem.W.keepIn K (.ref f21) = true)
    (a22 : PySem.W.nsIn K mainGlobals "is_zero" = some (some (.ref f22)))
    (l22 : K.lookup f22 = some ⟨v22, d22, .func (PySem.W.fnOf "is_zero" "is_zero" (defArgs st_is_zero) (defBody st_is_zero) (defScope st_is_zero) .none w22 x22 y22 e22 z22 u22), s22⟩)
    (c22 : PySem.W.codeIn K z22 "is_zero" = true)
    (k22 : PySem.W.keepIn K (.ref f22) = true)
    (a23 : PySem.W.nsIn K mainGlobals "lead_place" = some (some (.ref f23)))
    (l23 : K.lookup f23 = some ⟨v23, d23, .func (PySem.W.fnOf "lead_place" "lead_place" (defArgs st_lead_place) (defBody st_lead_place) (defScope st_lead_place) .none w23 x23 y23 e23 z23 u23), s23⟩)
    (c23 : PySem.W.codeIn K z23 "lead_place" = true)
    (k23 : PySem.W.keepIn K (.ref f23) = true)
    (a24 : PySem.W.nsIn K mainGlobals "lessened_row" = some (some (.ref f24)))
    (l24 : K.lookup f24 = some ⟨v24, d24, .func (PySem.W.fnOf "lessened_row" "lessened_row" (defArgs st_lessened_row) (defBody st_lessened_row) (defScope st_lessened_row) .none w24 x24 y24 e24 z24 u24), s24⟩)
    (c24 : PySem.W.codeIn K z24 "lessened_row" = true)
    (k24 : PySem.W.keepIn K (.ref f24) = true)
    (a25 : PySem.W.nsIn K mainGlobals "reduced_row" = some (some (.ref f25)))
    (l25 : K.lookup f25 = some ⟨v25, d25, .func (PySem.W.fnOf "reduced_row" "reduced_row" (defArgs st_reduced_row) (defBody st_reduced_row) (defScope st_reduced_row) .none w25 x25 y25 e25 z25 u25), s25⟩)
    (c25 : PySem.W.codeIn K z25 "reduced_row" = true)
    (k25 : PySem.W.keepIn K (.ref f25) = true)
    (a26 : PySem.W.nsIn K mainGlobals "is_held" = some (some (.ref f26)))
    (l26 : K.lookup f26 = some ⟨v26, d26, .func (PySem.W.fnOf "is_held" "is_held" (defArgs st_is_held) (defBody st_is_held) (defScope st_is_held) .none w26 x26 y26 e26 z26 u26), s26⟩)
    (c26 : PySem.W.codeIn K z26 "is_held" = true)
    (k26 : PySem.W.keepIn K (.ref f26) = true)
    (a27 : PySem.W.findIn K (.ref C_Lattice) "within" = some (some (.ref f27)))
    (i27 : PySem.W.isFn K (.ref f27) = true)
    (l27 : K.lookup f27 = some ⟨v27, d27, .func (PySem.W.fnOf "within" "Lattice.within" (defArgs st_Lattice_within) (defBody st_Lattice_within) (defScope st_Lattice_within) .none w27 x27 y27 e27 z27 u27), s27⟩)
    (c27 : PySem.W.codeIn K z27 "Lattice.within" = true)
    (k27 : PySem.W.keepIn K (.ref f27) = true)
    (a28 : PySem.W.findIn K (.ref C_Lattice) "same" = some (some (.ref f28)))
    (i28 : PySem.W.isFn K (.ref f28) = true)
    (l28 : K.lookup f28 = some ⟨v28, d28, .func (PySem.W.fnOf "same" "Lattice.same" (defArgs st_Lattice_same) (defBody st_Lattice_same) (defScope st_Lattice_same) .none w28 x28 y28 e28 z28 u28), s28⟩)
    (c28 : PySem.W.codeIn K z28 "Lattice.same" = true)
    (k28 : PySem.W.keepIn K (.ref f28) = true)
    (a29 : PySem.W.nsIn K mainGlobals "least_busy" = some (some (.ref f29)))
    (l29 : K.lookup f29 = some ⟨v29, d29, .func (PySem.W.fnOf "least_busy" "least_busy" (defArgs st_least_busy) (defBody st_least_busy) (defScope st_least_busy) .none w29 x29 y29 e29 z29 u29), s29⟩)
    (c29 : PySem.W.codeIn K z29 "least_busy" = true)
    (k29 : PySem.W.keepIn K (.ref f29) = true)
    (a30 : PySem.W.nsIn K mainGlobals "scaled_row" = some (some (.ref f30)))
    (l30 : K.lookup f30 = some ⟨v30, d30, .func (PySem.W.fnOf "scaled_row" "scaled_row" (defArgs st_scaled_row) (defBody st_scaled_row) (defScope st_scaled_row) .none w30 x30 y30 e30 z30 u30), s30⟩)
    (c30 : PySem.W.codeIn K z30 "scaled_row" = true)
    (k30 : PySem.W.keepIn K (.ref f30) = true)
    (a31 : PySem.W.nsIn K mainGlobals "pulled_row" = some (some (.ref f31)))
    (l31 : K.lookup f31 = some ⟨v31, d31, .func (PySem.W.fnOf "pulled_row" "pulled_row" (defArgs st_pulled_row) (defBody st_pulled_row) (defScope st_pulled_row) .none w31 x31 y31 e31 z31 u31), s31⟩)
    (c31 : PySem.W.codeIn K z31 "pulled_row" = true)
    (k31 : PySem.W.keepIn K (.ref f31) = true)
    (a32 : PySem.W.nsIn K mainGlobals "stairs_and_rest" = some (some (.ref f32)))
    (l32 : K.lookup f32 = some ⟨v32, d32, .func (PySem.W.fnOf "stairs_and_rest" "stairs_and_rest" (defArgs st_stairs_and_rest) (defBody st_stairs_and_rest) (defScope st_stairs_and_rest) .none w32 x32 y32 e32 z32 u32), s32⟩)
    (c32 : PySem.W.codeIn K z32 "stairs_and_rest" = true)
    (k32 : PySem.W.keepIn K (.ref f32) = true)
    (a33 : PySem.W.nsIn K mainGlobals "stairs_of" = some (some (.ref f33)))
    (l33 : K.lookup f33 = some ⟨v33, d33, .func (PySem.W.fnOf "stairs_of" "stairs_of" (defArgs st_stairs_of) (defBody st_stairs_of) (defScope st_stairs_of) .none w33 x33 y33 e33 z33 u33), s33⟩)
    (c33 : PySem.W.codeIn K z33 "stairs_of" = true)
    (k33 : PySem.W.keepIn K (.ref f33) = true)
    (a34 : PySem.W.nsIn K mainGlobals "check_most" = some (some (.ref f34)))
    (l34 : K.lookup f34 = some ⟨v34, d34, .func (PySem.W.fnOf "check_most" "check_most" (defArgs st_check_most) (defBody st_check_most) (defScope st_check_most) .none w34 x34 y34 e34 z34 u34), s34⟩)
    (c34 : PySem.W.codeIn K z34 "check_most" = true)
    (k34 : PySem.W.keepIn K (.ref f34) = true)
    (a35 : PySem.W.nsIn K mainGlobals "check_numbers" = some (some (.ref f35)))
    (l35 : K.lookup f35 = some ⟨v35, d35, .func (PySem.W.fnOf "check_numbers" "check_numbers" (defArgs st_check_numbers) (defBody st_check_numbers) (defScope st_check_numbers) .none w35 x35 y35 e35 z35 u35), s35⟩)
    (c35 : PySem.W.codeIn K z35 "check_numbers" = true)
    (k35 : PySem.W.keepIn K (.ref f35) = true)
    (a36 : PySem.W.nsIn K mainGlobals "is_whole" = some (some (.ref f36)))
    (l36 : K.lookup f36 = some ⟨v36, d36, .func (PySem.W.fnOf "is_whole" "is_whole" (defArgs st_is_whole) (defBody st_is_whole) (defScope st_is_whole) .none w36 x36 y36 e36 z36 u36), s36⟩)
    (c36 : PySem.W.codeIn K z36 "is_whole" = true)
    (k36 : PySem.W.keepIn K (.ref f36) = true)
    (a37 : PySem.W.nsIn K mainGlobals "whole_list" = some (some (.ref f37)))
    (l37 : K.lookup f37 = some ⟨v37, d37, .func (PySem.W.fnOf "whole_list" "whole_list" (defArgs st_whole_list) (defBody st_whole_list) (defScope st_whole_list) .none w37 x37 y37 e37 z37 u37), s37⟩)
    (c37 : PySem.W.codeIn K z37 "whole_list" = true)
    (k37 : PySem.W.keepIn K (.ref f37) = true)
    (a38 : PySem.W.nsIn K mainGlobals "check_rows" = some (some (.ref f38)))
    (l38 : K.lookup f38 = some ⟨v38, d38, .func (PySem.W.fnOf "check_rows" "check_rows" (defArgs st_check_rows) (defBody st_check_rows) (defScope st_check_rows) .none w38 x38 y38 e38 z38 u38), s38⟩)
    (c38 : PySem.W.codeIn K z38 "check_rows" = true)
    (k38 : PySem.W.keepIn K (.ref f38) = true)
    (a39 : PySem.W.findIn K (.ref C_Lattice) "__init__" = some (some (.ref f39)))
    (i39 : PySem.W.isFn K (.ref f39) = true)
    (l39 : K.lookup f39 = some ⟨v39, d39, .func (PySem.W.fnOf "__init__" "Lattice.__init__" (defArgs st_Lattice___init__) (defBody st_Lattice___init__) (defScope st_Lattice___init__) .none w39 x39 y39 e39 z39 u39), s39⟩)
    (c39 : PySem.W.codeIn K z39 "Lattice.__init__" = true)
    (k39 : PySem.W.keepIn K (.ref f39) = true)
    (a40 : PySem.W.nsIn K mainGlobals "lattice_of" = some (some (.ref f40)))
    (l40 : K.lookup f40 = some ⟨v40, d40, .func (PySem.W.fnOf "lattice_of" "lattice_of" (defArgs st_lattice_of) (defBody st_lattice_of) (defScope st_lattice_of) .none w40 x40 y40 e40 z40 u40), s40⟩)
    (c40 : PySem.W.codeIn K z40 "lattice_of" = true)
    (k40 : PySem.W.keepIn K (.ref f40) = true)
    (a41 : PySem.W.findIn K (.ref C_Lattice) "joined" = some (some (.ref f41)))
    (i41 : PySem.W.isFn K (.ref f41) = true)
    (l41 : K.lookup f41 = some ⟨v41, d41, .func (PySem.W.fnOf "joined" "Lattice.joined" (defArgs st_Lattice_joined) (defBody st_Lattice_joined) (defScope st_Lattice_joined) .none w41 x41 y41 e41 z41 u41), s41⟩)
    (c41 : PySem.W.codeIn K z41 "Lattice.joined" = true)
    (k41 : PySem.W.keepIn K (.ref f41) = true)
    (a42 : PySem.W.findIn K (.ref C_Lattice) "given" = some (some (.ref f42)))
    (i42 : PySem.W.isFn K (.ref f42) = true)
    (l42 : K.lookup f42 = some ⟨v42, d42, .func (PySem.W.fnOf "given" "Lattice.given" (defArgs st_Lattice_given) (defBody st_Lattice_given) (defScope st_Lattice_given) .none w42 x42 y42 e42 z42 u42), s42⟩)
    (c42 : PySem.W.codeIn K z42 "Lattice.given" = true)
    (k42 : PySem.W.keepIn K (.ref f42) = true)
    (a43 : PySem.W.nsIn K mainGlobals "_law_two_alike" = some (some (.ref f43)))
    (l43 : K.lookup f43 = some ⟨v43, d43, .func (PySem.W.fnOf "_law_two_alike" "_law_two_alike" (defArgs st_law_two_alike) (defBody st_law_two_alike) (defScope st_law_two_alike) .none w43 x43 y43 e43 z43 u43), s43⟩)
    (c43 : PySem.W.codeIn K z43 "_law_two_alike" = true)
    (k43 : PySem.W.keepIn K (.ref f43) = true)
    (a44 : PySem.W.nsIn K mainGlobals "_law_leads" = some (some (.ref f44)))
    (l44 : K.lookup f44 = some ⟨v44, d44, .func (PySem.W.fnOf "_law_leads" "_law_leads" (defArgs st_law_leads) (defBody st_law_leads) (defScope st_law_leads) .none w44 x44 y44 e44 z44 u44), s44⟩)
    (c44 : PySem.W.codeIn K z44 "_law_leads" = true)
    (k44 : PySem.W.keepIn K (.ref f44) = true)
    (a45 : PySem.W.nsIn K mainGlobals "_law_index" = some (some (.ref f45)))
    (l45 : K.lookup f45 = some ⟨v45, d45, .func (PySem.W.fnOf "_law_index" "_law_index" (defArgs st_law_index) (defBody st_law_index) (defScope st_law_index) .none w45 x45 y45 e45 z45 u45), s45⟩)
    (c45 : PySem.W.codeIn K z45 "_law_index" = true)
    (k45 : PySem.W.keepIn K (.ref f45) = true)
    (a46 : PySem.W.nsIn K mainGlobals "stair_amounts" = some (some (.ref f46)))
    (l46 : K.lookup f46 = some ⟨v46, d46, .func (PySem.W.fnOf "stair_amounts" "stair_amounts" (defArgs st_stair_amounts) (defBody st_stair_amounts) (defScope st_stair_amounts) .none w46 x46 y46 e46 z46 u46), s46⟩)
    (c46 : PySem.W.codeIn K z46 "stair_amounts" = true)
    (k46 : PySem.W.keepIn K (.ref f46) = true)
    (a47 : PySem.W.findIn K (.ref C_Lattice) "classes" = some (some (.ref f47)))
    (i47 : PySem.W.isFn K (.ref f47) = true)
    (l47 : K.lookup f47 = some ⟨v47, d47, .func (PySem.W.fnOf "classes" "Lattice.classes" (defArgs st_Lattice_classes) (defBody st_Lattice_classes) (defScope st_Lattice_classes) .none w47 x47 y47 e47 z47 u47), s47⟩)
    (c47 : PySem.W.codeIn K z47 "Lattice.classes" = true)
    (k47 : PySem.W.keepIn K (.ref f47) = true)
    (a48 : PySem.W.nsIn K mainGlobals "_law_inner_alike" = some (some (.ref f48)))
    (l48 : K.lookup f48 = some ⟨v48, d48, .func (PySem.W.fnOf "_law_inner_alike" "_law_inner_alike" (defArgs st_law_inner_alike) (defBody st_law_inner_alike) (defScope st_law_inner_alike) .none w48 x48 y48 e48 z48 u48), s48⟩)
    (c48 : PySem.W.codeIn K z48 "_law_inner_alike" = true)
    (k48 : PySem.W.keepIn K (.ref f48) = true)
    (a49 : PySem.W.nsIn K mainGlobals "_law_weights_drawn" = some (some (.ref f49)))
    (l49 : K.lookup f49 = some ⟨v49, d49, .func (PySem.W.fnOf "_law_weights_drawn" "_law_weights_drawn" (defArgs st_law_weights_drawn) (defBody st_law_weights_drawn) (defScope st_law_weights_drawn) .none w49 x49 y49 e49 z49 u49), s49⟩)
    (c49 : PySem.W.codeIn K z49 "_law_weights_drawn" = true)
    (k49 : PySem.W.keepIn K (.ref f49) = true)
    (a50 : PySem.W.nsIn K mainGlobals "_law_dot" = some (some (.ref f50)))
    (l50 : K.lookup f50 = some ⟨v50, d50, .func (PySem.W.fnOf "_law_dot" "_law_dot" (defArgs st_law_dot) (defBody st_law_dot) (defScope st_law_dot) .none w50 x50 y50 e50 z50 u50), s50⟩)
    (c50 : PySem.W.codeIn K z50 "_law_dot" = true)
    (k50 : PySem.W.keepIn K (.ref f50) = true)
    (a51 : PySem.W.nsIn K mainGlobals "_law_shows" = some (some (.ref f51)))
    (l51 : K.lookup f51 = some ⟨v51, d51, .func (PySem.W.fnOf "_law_shows" "_law_shows" (defArgs st_law_shows) (defBody st_law_shows) (defScope st_law_shows) .none w51 x51 y51 e51 z51 u51), s51⟩)
    (c51 : PySem.W.codeIn K z51 "_law_shows" = true)
    (k51 : PySem.W.keepIn K (.ref f51) = true)
    (a52 : PySem.W.nsIn K mainGlobals "_law_cut" = some (some (.ref f52)))
    (l52 : K.lookup f52 = some ⟨v52, d52, .func (PySem.W.fnOf "_law_cut" "_law_cut" (defArgs st_law_cut) (defBody st_law_cut) (defScope st_law_cut) .none w52 x52 y52 e52 z52 u52), s52⟩)
    (c52 : PySem.W.codeIn K z52 "_law_cut" = true)
    (k52 : PySem.W.keepIn K (.ref f52) = true)
    (a53 : PySem.W.nsIn K mainGlobals "_law_far_number" = some (some (.ref f53)))
    (l53 : K.lookup f53 = some ⟨v53, d53, .func (PySem.W.fnOf "_law_far_number" "_law_far_number" (defArgs st_law_far_number) (defBody st_law_far_number) (defScope st_law_far_number) .none w53 x53 y53 e53 z53 u53), s53⟩)
    (c53 : PySem.W.codeIn K z53 "_law_far_number" = true)
    (k53 : PySem.W.keepIn K (.ref f53) = true)
    (a54 : PySem.W.nsIn K mainGlobals "_law_shown" = some (some (.ref f54)))
    (l54 : K.lookup f54 = some ⟨v54, d54, .func (PySem.W.fnOf "_law_shown" "_law_shown" (defArgs st_law_shown) (defBody st_law_shown) (defScope st_law_shown) .none w54 x54 y54 e54 z54 u54), s54⟩)
    (c54 : PySem.W.codeIn K z54 "_law_shown" = true)
    (k54 : PySem.W.keepIn K (.ref f54) = true)
    (a55 : PySem.W.nsIn K mainGlobals "_law_is_row" = some (some (.ref f55)))
    (l55 : K.lookup f55 = some ⟨v55, d55, .func (PySem.W.fnOf "_law_is_row" "_law_is_row" (defArgs st_law_is_row) (defBody st_law_is_row) (defScope st_law_is_row) .none w55 x55 y55 e55 z55 u55), s55⟩)
    (c55 : PySem.W.codeIn K z55 "_law_is_row" = true)
    (k55 : PySem.W.keepIn K (.ref f55) = true)
    (a56 : PySem.W.nsIn K mainGlobals "_law_shows_values" = some (some (.ref f56)))
    (l56 : K.lookup f56 = some ⟨v56, d56, .func (PySem.W.fnOf "_law_shows_values" "_law_shows_values" (defArgs st_law_shows_values) (defBody st_law_shows_values) (defScope st_law_shows_values) .none w56 x56 y56 e56 z56 u56), s56⟩)
    (c56 : PySem.W.codeIn K z56 "_law_shows_values" = true)
    (k56 : PySem.W.keepIn K (.ref f56) = true)
    (a57 : PySem.W.nsIn K mainGlobals "_law_gcd" = some (some (.ref f57)))
    (l57 : K.lookup f57 = some ⟨v57, d57, .func (PySem.W.fnOf "_law_gcd" "_law_gcd" (defArgs st_law_gcd) (defBody st_law_gcd) (defScope st_law_gcd) .none w57 x57 y57 e57 z57 u57), s57⟩)
    (c57 : PySem.W.codeIn K z57 "_law_gcd" = true)
    (k57 : PySem.W.keepIn K (.ref f57) = true)
    (a58 : PySem.W.nsIn K mainGlobals "_law_common" = some (some (.ref f58)))
    (l58 : K.lookup f58 = some ⟨v58, d58, .func (PySem.W.fnOf "_law_common" "_law_common" (defArgs st_law_common) (defBody st_law_common) (defScope st_law_common) .none w58 x58 y58 e58 z58 u58), s58⟩)
    (c58 : PySem.W.codeIn K z58 "_law_common" = true)
    (k58 : PySem.W.keepIn K (.ref f58) = true)
    (a59 : PySem.W.nsIn K mainGlobals "check_asked" = some (some (.ref f59)))
    (l59 : K.lookup f59 = some ⟨v59, d59, .func (PySem.W.fnOf "check_asked" "check_asked" (defArgs st_check_asked) (defBody st_check_asked) (defScope st_check_asked) .none w59 x59 y59 e59 z59 u59), s59⟩)
    (c59 : PySem.W.codeIn K z59 "check_asked" = true)
    (k59 : PySem.W.keepIn K (.ref f59) = true)
    (a60 : PySem.W.nsIn K mainGlobals "dot_product" = some (some (.ref f60)))
    (l60 : K.lookup f60 = some ⟨v60, d60, .func (PySem.W.fnOf "dot_product" "dot_product" (defArgs st_dot_product) (defBody st_dot_product) (defScope st_dot_product) .none w60 x60 y60 e60 z60 u60), s60⟩)
    (c60 : PySem.W.codeIn K z60 "dot_product" = true)
    (k60 : PySem.W.keepIn K (.ref f60) = true)
    (a61 : PySem.W.nsIn K mainGlobals "shown_rows" = some (some (.ref f61)))
    (l61 : K.lookup f61 = some ⟨v61, d61, .func (PySem.W.fnOf "shown_rows" "shown_rows" (defArgs st_shown_rows) (defBody st_shown_rows) (defScope st_shown_rows) .none w61 x61 y61 e61 z61 u61), s61⟩)
    (c61 : PySem.W.codeIn K z61 "shown_rows" = true)
    (k61 : PySem.W.keepIn K (.ref f61) = true)
    (a62 : PySem.W.nsIn K mainGlobals "cut_by" = some (some (.ref f62)))
    (l62 : K.lookup f62 = some ⟨v62, d62, .func (PySem.W.fnOf "cut_by" "cut_by" (defArgs st_cut_by) (defBody st_cut_by) (defScope st_cut_by) .none w62 x62 y62 e62 z62 u62), s62⟩)
    (c62 : PySem.W.codeIn K z62 "cut_by" = true)
    (k62 : PySem.W.keepIn K (.ref f62) = true)
    (a63 : PySem.W.nsIn K mainGlobals "cut_lattice" = some (some (.ref f63)))
    (l63 : K.lookup f63 = some ⟨v63, d63, .func (PySem.W.fnOf "cut_lattice" "cut_lattice" (defArgs st_cut_lattice) (defBody st_cut_lattice) (defScope st_cut_lattice) .none w63 x63 y63 e63 z63 u63), s63⟩)
    (c63 : PySem.W.codeIn K z63 "cut_lattice" = true)
    (k63 : PySem.W.keepIn K (.ref f63) = true)
    (a64 : PySem.W.findIn K (.ref C_Lattice) "cut" = some (some (.ref f64)))
    (i64 : PySem.W.isFn K (.ref f64) = true)
    (l64 : K.lookup f64 = some ⟨v64, d64, .func (PySem.W.fnOf "cut" "Lattice.cut" (defArgs st_Lattice_cut) (defBody st_Lattice_cut) (defScope st_Lattice_cut) .none w64 x64 y64 e64 z64 u64), s64⟩)
    (c64 : PySem.W.codeIn K z64 "Lattice.cut" = true)
    (k64 : PySem.W.keepIn K (.ref f64) = true)
    (a65 : PySem.W.nsIn K mainGlobals "zero_row" = some (some (.ref f65)))
    (l65 : K.lookup f65 = some ⟨v65, d65, .func (PySem.W.fnOf "zero_row" "zero_row" (defArgs st_zero_row) (defBody st_zero_row) (defScope st_zero_row) .none w65 x65 y65 e65 z65 u65), s65⟩)
    (c65 : PySem.W.codeIn K z65 "zero_row" = true)
    (k65 : PySem.W.keepIn K (.ref f65) = true)
    (a66 : PySem.W.nsIn K mainGlobals "shown_row" = some (some (.ref f66)))
    (l66 : K.lookup f66 = some ⟨v66, d66, .func (PySem.W.fnOf "shown_row" "shown_row" (defArgs st_shown_row) (defBody st_shown_row) (defScope st_shown_row) .none w66 x66 y66 e66 z66 u66), s66⟩)
    (c66 : PySem.W.codeIn K z66 "shown_row" = true)
    (k66 : PySem.W.keepIn K (.ref f66) = true)
    (a67 : PySem.W.findIn K (.ref C_Lattice) "shown" = some (some (.ref f67)))
    (i67 : PySem.W.isFn K (.ref f67) = true)
    (l67 : K.lookup f67 = some ⟨v67, d67, .func (PySem.W.fnOf "shown" "Lattice.shown" (defArgs st_Lattice_shown) (defBody st_Lattice_shown) (defScope st_Lattice_shown) .none w67 x67 y67 e67 z67 u67), s67⟩)
    (c67 : PySem.W.codeIn K z67 "Lattice.shown" = true)
    (k67 : PySem.W.keepIn K (.ref f67) = true)
    (a68 : PySem.W.nsIn K mainGlobals "greatest_common" = some (some (.ref f68)))
    (l68 : K.lookup f68 = some ⟨v68, d68, .func (PySem.W.fnOf "greatest_common" "greatest_common" (defArgs st_greatest_common) (defBody st_greatest_common) (defScope st_greatest_common) .none w68 x68 y68 e68 z68 u68), s68⟩)
    (c68 : PySem.W.codeIn K z68 "greatest_common" = true)
    (k68 : PySem.W.keepIn K (.ref f68) = true)
    (a69 : PySem.W.nsIn K mainGlobals "common_of" = some (some (.ref f69)))
    (l69 : K.lookup f69 = some ⟨v69, d69, .func (PySem.W.fnOf "common_of" "common_of" (defArgs st_common_of) (defBody st_common_of) (defScope st_common_of) .none w69 x69 y69 e69 z69 u69), s69⟩)
    (c69 : PySem.W.codeIn K z69 "common_of" = true)
    (k69 : PySem.W.keepIn K (.ref f69) = true)
    (a70 : PySem.W.findIn K (.ref C_Lattice) "common" = some (some (.ref f70)))
    (i70 : PySem.W.isFn K (.ref f70) = true)
    (l70 : K.lookup f70 = some ⟨v70, d70, .func (PySem.W.fnOf "common" "Lattice.common" (defArgs st_Lattice_common) (defBody st_Lattice_common) (defScope st_Lattice_common) .none w70 x70 y70 e70 z70 u70), s70⟩)
    (c70 : PySem.W.codeIn K z70 "Lattice.common" = true)
    (k70 : PySem.W.keepIn K (.ref f70) = true)
    (a71 : PySem.W.nsIn K mainGlobals "_law_cut_alike" = some (some (.ref f71)))
    (l71 : K.lookup f71 = some ⟨v71, d71, .func (PySem.W.fnOf "_law_cut_alike" "_law_cut_alike" (defArgs st_law_cut_alike) (defBody st_law_cut_alike) (defScope st_law_cut_alike) .none w71 x71 y71 e71 z71 u71), s71⟩)
    (c71 : PySem.W.codeIn K z71 "_law_cut_alike" = true)
    (k71 : PySem.W.keepIn K (.ref f71) = true)
    (a72 : PySem.W.findIn K (.ref C_Lattice) "at_places" = some (some (.ref f72)))
    (i72 : PySem.W.isFn K (.ref f72) = true)
    (l72 : K.lookup f72 = some ⟨v72, d72, .func (PySem.W.fnOf "at_places" "Lattice.at_places" (defArgs st_Lattice_at_places) (defBody st_Lattice_at_places) (defScope st_Lattice_at_places) .none w72 x72 y72 e72 z72 u72), s72⟩)
    (c72 : PySem.W.codeIn K z72 "Lattice.at_places" = true)
    (k72 : PySem.W.keepIn K (.ref f72) = true)
    (a73 : PySem.W.nsIn K mainGlobals "_law_places_alike" = some (some (.ref f73)))
    (l73 : K.lookup f73 = some ⟨v73, d73, .func (PySem.W.fnOf "_law_places_alike" "_law_places_alike" (defArgs st_law_places_alike) (defBody st_law_places_alike) (defScope st_law_places_alike) .none w73 x73 y73 e73 z73 u73), s73⟩)
    (c73 : PySem.W.codeIn K z73 "_law_places_alike" = true)
    (k73 : PySem.W.keepIn K (.ref f73) = true)
    (a74 : PySem.W.nsIn K mainGlobals "law" = some (some (.ref f74)))
    (l74 : K.lookup f74 = some ⟨v74, d74, .func (PySem.W.fnOf "law" "law" (defArgs st_law) (defBody st_law) (defScope st_law) .none w74 x74 y74 e74 z74 u74), s74⟩)
    (c74 : PySem.W.codeIn K z74 "law" = true)
    (k74 : PySem.W.keepIn K (.ref f74) = true)
    (b_len : PySem.W.nsIn K mainGlobals "len" = some none)
    (b_int : PySem.W.nsIn K mainGlobals "int" = some none)
    (b_sum : PySem.W.nsIn K mainGlobals "sum" = some none)
    (b_abs : PySem.W.nsIn K mainGlobals "abs" = some none)
    (b_range : PySem.W.nsIn K mainGlobals "range" = some none)
    (b_max : PySem.W.nsIn K mainGlobals "max" = some none)
    (b_list : PySem.W.nsIn K mainGlobals "list" = some none)
    (b_isinstance : PySem.W.nsIn K mainGlobals "isinstance" = some none)
    (b_bool : PySem.W.nsIn K mainGlobals "bool" = some none)
    (b_tuple : PySem.W.nsIn K mainGlobals "tuple" = some none)
    (g_BOOKS : PySem.W.nsIn K mainGlobals "BOOKS" = some (some (.int 9 t_BOOKS)))
    (g_ROWS : PySem.W.nsIn K mainGlobals "ROWS" = some (some (.int 40 t_ROWS)))
    (g_NUMBERS : PySem.W.nsIn K mainGlobals "NUMBERS" = some (some (.int 1000000 t_NUMBERS)))
    (g_AMOUNTS : PySem.W.nsIn K mainGlobals "AMOUNTS" = some (some (.int 1000000000000000000000000000000 t_AMOUNTS))) :
    ∃ fd : FuncData, (∀ (s : Shared) (v : Value), BindsTo s fd ⟨[v], []⟩ [("script", v)]) ∧ ∀ base : Heap, K.In base → base.Ns mainGlobals mg → base.NoSeer → FnOk l.prog w K mg base CX0 42 fa fd ["script"] (sp_law ⟨K, fun _ => 0⟩) := by
  have e := hfa.symm.trans (PySem.W.mg_of X G a74)
  cases e
  refine ⟨PySem.W.fnOf "law" "law" (defArgs st_law) (defBody st_law) (defScope st_law) .none w74 x74 y74 e74 z74 u74, fun s v => .of_eq rfl, fun base _ _ hs => ?_⟩
  exact all_law (Z := ⟨K, fun x => C_Lattice⟩)
    ⟨⟨p_Lattice, h_Lattice, o_Lattice, s_Lattice⟩, f_Lattice_row_width, f_Lattice_given_rows, f_Lattice_normal_rows, f_Lattice_kept_list⟩
    ⟨p_Lattice, h_Lattice, o_Lattice, s_Lattice⟩
    ⟨PySem.W.mg_none_of X G b_len, PySem.W.mg_none_of X G b_int, PySem.W.mg_none_of X G b_sum, PySem.W.mg_none_of X G b_abs, PySem.W.mg_none_of X G b_range, PySem.W.mg_none_of X G b_max, PySem.W.mg_none_of X G b_list, PySem.W.mg_none_of X G b_isinstance, PySem.W.mg_none_of X G b_bool, PySem.W.mg_none_of X G b_tuple, t_BOOKS, PySem.W.mg_of X G g_BOOKS, t_ROWS, PySem.W.mg_of X G g_ROWS, t_NUMBERS, PySem.W.mg_of X G g_NUMBERS, t_AMOUNTS, PySem.W.mg_of X G g_AMOUNTS⟩
    hs
    ht
    ⟨f0, _, fun_mk (st := st_law_purse) l0 c0 k0, PySem.W.mg_of X G a0⟩
    ⟨f1, _, fun_mk (st := st_law_draw) l1 c1 k1, PySem.W.mg_of X G a1⟩
    ⟨f2, _, fun_mk (st := st_law_pack_rows) l2 c2 k2, PySem.W.mg_of X G a2⟩
    ⟨f3, _, fun_mk (st := st_law_number) l3 c3 k3, PySem.W.mg_of X G a3⟩
    ⟨f4, _, fun_mk (st := st_law_row_drawn) l4 c4 k4, PySem.W.mg_of X G a4⟩
    ⟨f5, _, fun_mk (st := st_law_rows_drawn) l5 c5 k5, PySem.W.mg_of X G a5⟩
    ⟨f6, _, fun_mk (st := st_law_mixed) l6 c6 k6, PySem.W.mg_of X G a6⟩
    ⟨f7, _, fun_mk (st := st_law_inner_rows) l7 c7 k7, PySem.W.mg_of X G a7⟩
    ⟨f8, _, fun_mk (st := st_law_unit) l8 c8 k8, PySem.W.mg_of X G a8⟩
    ⟨f9, _, fun_mk (st := st_law_less) l9 c9 k9, PySem.W.mg_of X G a9⟩
    ⟨f10, _, fun_mk (st := st_law_pull) l10 c10 k10, PySem.W.mg_of X G a10⟩
    ⟨f11, _, fun_mk (st := st_law_stairs_rest) l11 c11 k11, PySem.W.mg_of X G a11⟩
    ⟨f12, _, fun_mk (st := st_law_stairs) l12 c12 k12, PySem.W.mg_of X G a12⟩
    ⟨f13, _, fun_mk (st := st_law_zero) l13 c13 k13, PySem.W.mg_of X G a13⟩
    ⟨f14, _, fun_mk (st := st_law_reduced) l14 c14 k14, PySem.W.mg_of X G a14⟩
    ⟨f15, _, fun_mk (st := st_law_held) l15 c15 k15, PySem.W.mg_of X G a15⟩
    ⟨f16, _, fun_mk (st := st_law_within_first) l16 c16 k16, PySem.W.mg_of X G a16⟩
    ⟨f17, _, fun_mk (st := st_Lattice_width) l17 c17 k17, ⟨a17, i17, k17⟩⟩
    ⟨f18, _, fun_mk (st := st_Lattice_rows) l18 c18 k18, ⟨a18, i18, k18⟩⟩
    ⟨f19, _, fun_mk (st := st_Lattice_rank) l19 c19 k19, ⟨a19, i19, k19⟩⟩
    ⟨f20, _, fun_mk (st := st_law_is_lattice) l20 c20 k20, PySem.W.mg_of X G a20⟩
    ⟨f21, _, fun_mk (st := st_check_width) l21 c21 k21, PySem.W.mg_of X G a21⟩
    ⟨f22, _, fun_mk (st := st_is_zero) l22 c22 k22, PySem.W.mg_of X G a22⟩
    ⟨f23, _, fun_mk (st := st_lead_place) l23 c23 k23, PySem.W.mg_of X G a23⟩
    ⟨f24, _, fun_mk (st := st_lessened_row) l24 c24 k24, PySem.W.mg_of X G a24⟩
    ⟨f25, _, fun_mk (st := st_reduced_row) l25 c25 k25, PySem.W.mg_of X G a25⟩
    ⟨f26, _, fun_mk (st := st_is_held) l26 c26 k26, PySem.W.mg_of X G a26⟩
    ⟨f27, _, fun_mk (st := st_Lattice_within) l27 c27 k27, ⟨a27, i27, k27⟩⟩
    ⟨f28, _, fun_mk (st := st_Lattice_same) l28 c28 k28, ⟨a28, i28, k28⟩⟩
    ⟨f29, _, fun_mk (st := st_least_busy) l29 c29 k29, PySem.W.mg_of X G a29⟩
    ⟨f30, _, fun_mk (st := st_scaled_row) l30 c30 k30, PySem.W.mg_of X G a30⟩
    ⟨f31, _, fun_mk (st := st_pulled_row) l31 c31 k31, PySem.W.mg_of X G a31⟩
    ⟨f32, _, fun_mk (st := st_stairs_and_rest) l32 c32 k32, PySem.W.mg_of X G a32⟩
    ⟨f33, _, fun_mk (st := st_stairs_of) l33 c33 k33, PySem.W.mg_of X G a33⟩
    ⟨f34, _, fun_mk (st := st_check_most) l34 c34 k34, PySem.W.mg_of X G a34⟩
    ⟨f35, _, fun_mk (st := st_check_numbers) l35 c35 k35, PySem.W.mg_of X G a35⟩
    ⟨f36, _, fun_mk (st := st_is_whole) l36 c36 k36, PySem.W.mg_of X G a36⟩
    ⟨f37, _, fun_mk (st := st_whole_list) l37 c37 k37, PySem.W.mg_of X G a37⟩
    ⟨f38, _, fun_mk (st := st_check_rows) l38 c38 k38, PySem.W.mg_of X G a38⟩
    ⟨f39, _, fun_mk (st := st_Lattice___init__) l39 c39 k39, ⟨m_Lattice, a39, i39, k_Lattice⟩, PySem.W.mg_of X G n_Lattice⟩
    ⟨f40, _, fun_mk (st := st_lattice_of) l40 c40 k40, PySem.W.mg_of X G a40⟩
    ⟨f41, _, fun_mk (st := st_Lattice_joined) l41 c41 k41, ⟨a41, i41, k41⟩⟩
    ⟨f42, _, fun_mk (st := st_Lattice_given) l42 c42 k42, ⟨a42, i42, k42⟩⟩
    ⟨f43, _, fun_mk (st := st_law_two_alike) l43 c43 k43, PySem.W.mg_of X G a43⟩
    ⟨f44, _, fun_mk (st := st_law_leads) l44 c44 k44, PySem.W.mg_of X G a44⟩
    ⟨f45, _, fun_mk (st := st_law_index) l45 c45 k45, PySem.W.mg_of X G a45⟩
    ⟨f46, _, fun_mk (st := st_stair_amounts) l46 c46 k46, PySem.W.mg_of X G a46⟩
    ⟨f47, _, fun_mk (st := st_Lattice_classes) l47 c47 k47, ⟨a47, i47, k47⟩⟩
    ⟨f48, _, fun_mk (st := st_law_inner_alike) l48 c48 k48, PySem.W.mg_of X G a48⟩
    ⟨f49, _, fun_mk (st := st_law_weights_drawn) l49 c49 k49, PySem.W.mg_of X G a49⟩
    ⟨f50, _, fun_mk (st := st_law_dot) l50 c50 k50, PySem.W.mg_of X G a50⟩
    ⟨f51, _, fun_mk (st := st_law_shows) l51 c51 k51, PySem.W.mg_of X G a51⟩
    ⟨f52, _, fun_mk (st := st_law_cut) l52 c52 k52, PySem.W.mg_of X G a52⟩
    ⟨f53, _, fun_mk (st := st_law_far_number) l53 c53 k53, PySem.W.mg_of X G a53⟩
    ⟨f54, _, fun_mk (st := st_law_shown) l54 c54 k54, PySem.W.mg_of X G a54⟩
    ⟨f55, _, fun_mk (st := st_law_is_row) l55 c55 k55, PySem.W.mg_of X G a55⟩
    ⟨f56, _, fun_mk (st := st_law_shows_values) l56 c56 k56, PySem.W.mg_of X G a56⟩
    ⟨f57, _, fun_mk (st := st_law_gcd) l57 c57 k57, PySem.W.mg_of X G a57⟩
    ⟨f58, _, fun_mk (st := st_law_common) l58 c58 k58, PySem.W.mg_of X G a58⟩
    ⟨f59, _, fun_mk (st := st_check_asked) l59 c59 k59, PySem.W.mg_of X G a59⟩
    ⟨f60, _, fun_mk (st := st_dot_product) l60 c60 k60, PySem.W.mg_of X G a60⟩
    ⟨f61, _, fun_mk (st := st_shown_rows) l61 c61 k61, PySem.W.mg_of X G a61⟩
    ⟨f62, _, fun_mk (st := st_cut_by) l62 c62 k62, PySem.W.mg_of X G a62⟩
    ⟨f63, _, fun_mk (st := st_cut_lattice) l63 c63 k63, PySem.W.mg_of X G a63⟩
    ⟨f64, _, fun_mk (st := st_Lattice_cut) l64 c64 k64, ⟨a64, i64, k64⟩⟩
    ⟨f65, _, fun_mk (st := st_zero_row) l65 c65 k65, PySem.W.mg_of X G a65⟩
    ⟨f66, _, fun_mk (st := st_shown_row) l66 c66 k66, PySem.W.mg_of X G a66⟩
    ⟨f67, _, fun_mk (st := st_Lattice_shown) l67 c67 k67, ⟨a67, i67, k67⟩⟩
    ⟨f68, _, fun_mk (st := st_greatest_common) l68 c68 k68, PySem.W.mg_of X G a68⟩
    ⟨f69, _, fun_mk (st := st_common_of) l69 c69 k69, PySem.W.mg_of X G a69⟩
    ⟨f70, _, fun_mk (st := st_Lattice_common) l70 c70 k70, ⟨a70, i70, k70⟩⟩
    ⟨f71, _, fun_mk (st := st_law_cut_alike) l71 c71 k71, PySem.W.mg_of X G a71⟩
    ⟨f72, _, fun_mk (st := st_Lattice_at_places) l72 c72 k72, ⟨a72, i72, k72⟩⟩
    ⟨f73, _, fun_mk (st := st_law_places_alike) l73 c73 k73, PySem.W.mg_of X G a73⟩
    (fun_mk (st := st_law) l74 c74 k74)
end G
end
section
open PySem PySem.W PyProof.Rows
set_option Elab.async false
set_option maxRecDepth 100000 in
set_option maxHeartbeats 0 in
open_top hd for PySem.Challenge.rw_closedright_k01_lattices_joined_cut_and
end
section
set_option Elab.async false
set_option linter.all false
set_option maxRecDepth 100000
set_option maxHeartbeats 4000000
open PySem PySem.W PyProof.Rows G
set_option maxHeartbeats 0 in
theorem PySem.Challenge.cw_closedright_k01_lattices_joined_cut_and_holds : PySem.Challenge.rw_closedright_k01_lattices_joined_cut_and.Holds := by
  refine hd ?_
  k_fill
  refine walk_law (l := PySem.Challenge.rw_closedright_k01_lattices_joined_cut_and) (n := 63) (k := 42) (x := "script") (sp := fun K => sp_law ⟨K, fun _ => 0⟩) rfl (by decide) rfl ⟨rfl, by decide, by decide⟩ (by decide +kernel) (fun w h Y => PySem.W.kIn_of Y) ?F (fun _ _ a ns hl hS => prom_law hl hS)
  case F =>
    intro w mg fa h KX G hmg
    refine' all_mk rfl KX G hmg ?n_Lattice ?p_Lattice ?h_Lattice ?o_Lattice ?s_Lattice ?m_Lattice ?k_Lattice ?f_Lattice_row_width ?f_Lattice_given_rows ?f_Lattice_normal_rows ?f_Lattice_kept_list ?a0 ?l0 ?c0 ?k0 ?a1 ?l1 ?c1 ?k1 ?a2 ?l2 ?c2 ?k2 ?a3 ?l3 ?c3 ?k3 ?a4 ?l4 ?c4 ?k4 ?a5 ?l5 ?c5 ?k5 ?a6 ?l6 ?c6 ?k6 ?a7 ?l7 ?c7 ?k7 ?a8 ?l8 ?c8 ?k8 ?a9 ?l9 ?c9 ?k9 ?a10 ?l10 ?c10 ?k10 ?a11 ?l11 ?c11 ?k11 ?a12 ?l12 ?c12 ?k12 ?a13 ?l13 ?c13 ?k13 ?a14 ?l14 ?c14 ?k14 ?a15 ?l15 ?c15 ?k15 ?a16 ?l16 ?c16 ?k16 ?a17 ?i17 ?l17 ?c17 ?k17 ?a18 ?i18 ?l18 ?c18 ?k18 ?a19 ?i19 ?l19 ?c19 ?k19 ?a20 ?l20 ?c20 ?k20 ?a21 ?l21 ?c21 ?k21 ?a22 ?l22 ?c22 ?k22 ?a23 ?l23 ?c23 ?k23 ?a24 ?l24 ?c24 ?k24 ?a25 ?l25 ?c25 ?k25 ?a26 ?l26 ?c26 ?k26 ?a27 ?i27 ?l27 ?c27 ?k27 ?a28 ?i28 ?l28 ?c28 ?k28 ?a29 ?l29 ?c29 ?k29 ?a30 ?l30 ?c30 ?k30 ?a31 ?l31 ?c31 ?k31 ?a32 ?l32 ?c32 ?k32 ?a33 ?l33 ?c33 ?k33 ?a34 ?l34 ?c34 ?k34 ?a35 ?l35 ?c35 ?k35 ?a36 ?l36 ?c36 ?k36 ?a37 ?l37 ?c37 ?k37 ?a38 ?l38 ?c38 ?k38 ?a39 ?i39 ?l39 ?c39 ?k39 ?a40 ?l40 ?c40 ?k40 ?a41 ?i41 ?l41 ?c41 ?k41 ?a42 ?i42 ?l42 ?c42 ?k42 ?a43 ?l43 ?c43 ?k43 ?a44 ?l44 ?c44 ?k44 ?a45 ?l45 ?c45 ?k45 ?a46 ?l46 ?c46 ?k46 ?a47 ?i47 ?l47 ?c47 ?k47 ?a48 ?l48 ?c48 ?k48 ?a49 ?l49 ?c49 ?k49 ?a50 ?l50 ?c50 ?k50 ?a51 ?l51 ?c51 ?k51 ?a52 ?l52 ?c52 ?k52 ?a53 ?l53 ?c53 ?k53 ?a54 ?l54 ?c54 ?k54 ?a55 ?l55 ?c55 ?k55 ?a56 ?l56 ?c56 ?k56 ?a57 ?l57 ?c57 ?k57 ?a58 ?l58 ?c58 ?k58 ?a59 ?l59 ?c59 ?k59 ?a60 ?l60 ?c60 ?k60 ?a61 ?l61 ?c61 ?k61 ?a62 ?l62 ?c62 ?k62 ?a63 ?l63 ?c63 ?k63 ?a64 ?i64 ?l64 ?c64 ?k64 ?a65 ?l65 ?c65 ?k65 ?a66 ?l66 ?c66 ?k66 ?a67 ?i67 ?l67 ?c67 ?k67 ?a68 ?l68 ?c68 ?k68 ?a69 ?l69 ?c69 ?k69 ?a70 ?i70 ?l70 ?c70 ?k70 ?a71 ?l71 ?c71 ?k71 ?a72 ?i72 ?l72 ?c72 ?k72 ?a73 ?l73 ?c73 ?k73 ?a74 ?l74 ?c74 ?k74 ?b_len ?b_int ?b_sum ?b_abs ?b_range ?b_max ?b_list ?b_isinstance ?b_bool ?b_tuple ?g_BOOKS ?g_ROWS ?g_NUMBERS ?g_AMOUNTS
    (case n_Lattice => k_is)
    (case p_Lattice => k_is)
    (case h_Lattice => k_is)
    (case o_Lattice => k_is)
    (case s_Lattice => k_is)
    (case m_Lattice => k_is)
    (case k_Lattice => k_is)
    (case f_Lattice_row_width => k_is)
    (case f_Lattice_given_rows => k_is)
    (case f_Lattice_normal_rows => k_is)
    (case f_Lattice_kept_list => k_is)
    (case a0 => k_is)
    (case l0 => k_is)
    (case c0 => k_is)
    (case k0 => k_is)
    (case a1 => k_is)
    (case l1 => k_is)
    (case c1 => k_is)
    (case k1 => k_is)
    (case a2 => k_is)
    (case l2 => k_is)
    (case c2 => k_is)
    (case k2 => k_is)
    (case a3 => k_is)
    (case l3 => k_is)
    (case c3 => k_is)
    (case k3 => k_is)
    (case a4 => k_is)
    (case l4 => k_is)
    (case c4 => k_is)
    (case k4 => k_is)
    (case a5 => k_is)
    (case l5 => k_is)
    (case c5 => k_is)
    (case k5 => k_is)
    (case a6 => k_is)
    (case l6 => k_is)
    (case c6 => k_is)
    (case k6 => k_is)
    (case a7 => k_is)
    (case l7 => k_is)
    (case c7 => k_is)
    (case k7 => k_is)
    (case a8 => k_is)
    (case l8 => k_is)
    (case c8 => k_is)
    (case k8 => k_is)
    (case a9 => k_is)
    (case l9 => k_is)
    (case c9 => k_is)
    (case k9 => k_is)
    (case a10 => k_is)
    (case l10 => k_is)
    (case c10 => k_is)
    (case k10 => k_is)
    (case a11 => k_is)
    (case l11 => k_is)
    (case c11 => k_is)
    (case k11 => k_is)
    (case a12 => k_is)
    (case l12 => k_is)
    (case c12 => k_is)
    (case k12 => k_is)
    (case a13 => k_is)
    (case l13 => k_is)
    (case c13 => k_is)
    (case k13 => k_is)
    (case a14 => k_is)
    (case l14 => k_is)
    (case c14 => k_is)
    (case k14 => k_is)
    (case a15 => k_is)
    (case l15 => k_is)
    (case c15 => k_is)
    (case k15 => k_is)
    (case a16 => k_is)
    (case l16 => k_is)
    (case c16 => k_is)
    (case k16 => k_is)
    (case a17 => k_is)
    (case i17 => k_is)
    (case l17 => k_is)
    (case c17 => k_is)
    (case k17 => k_is)
    (case a18 => k_is)
    (case i18 => k_is)
    (case l18 => k_is)
    (case c18 => k_is)
    (case k18 => k_is)
    (case a19 => k_is)
    (case i19 => k_is)
    (case l19 => k_is)
    (case c19 => k_is)
    (case k19 => k_is)
    (case a20 => k_is)
    (case l20 => k_is)
    (case c20 => k_is)
    (case k20 => k_is)
    (case a21 => k_is)
    (case l21 => k_is)
    (case c21 => k_is)
    (case k21 => k_is)
    (case a22 => k_is)
    (case l22 => k_is)
    (case c22 => k_is)
    (case k22 => k_is)
    (case a23 => k_is)
    (case l23 => k_is)
    (case c23 => k_is)
    (case k23 => k_is)
    (case a24 => k_is)
    (case l24 => k_is)
    (case c24 => k_is)
    (case k24 => k_is)
    (case a25 => k_is)
    (case l25 => k_is)
    (case c25 => k_is)
    (case k25 => k_is)
    (case a26 => k_is)
    (case l26 => k_is)
    (case c26 => k_is)
    (case k26 => k_is)
    (case a27 => k_is)
    (case i27 => k_is)
    (case l27 => k_is)
    (case c27 => k_is)
    (case k27 => k_is)
    (case a28 => k_is)
    (case i28 => k_is)
    (case l28 => k_is)
    (case c28 => k_is)
    (case k28 => k_is)
    (case a29 => k_is)
    (case l29 => k_is)
    (case c29 => k_is)
    (case k29 => k_is)
    (case a30 => k_is)
    (case l30 => k_is)
    (case c30 => k_is)
    (case k30 => k_is)
    (case a31 => k_is)
    (case l31 => k_is)
    (case c31 => k_is)
    (case k31 => k_is)
    (case a32 => k_is)
    (case l32 => k_is)
    (case c32 => k_is)
    (case k32 => k_is)
    (case a33 => k_is)
    (case l33 => k_is)
    (case c33 => k_is)
    (case k33 => k_is)
    (case a34 => k_is)
    (case l34 => k_is)
    (case c34 => k_is)
    (case k34 => k_is)
    (case a35 => k_is)
    (case l35 => k_is)
    (case c35 => k_is)
    (case k35 => k_is)
    (case a36 => k_is)
    (case l36 => k_is)
    (case c36 => k_is)
    (case k36 => k_is)
    (case a37 => k_is)
    (case l37 => k_is)
    (case c37 => k_is)
    (case k37 => k_is)
    (case a38 => k_is)
    (case l38 => k_is)
    (case c38 => k_is)
    (case k38 => k_is)
    (case a39 => k_is)
    (case i39 => k_is)
    (case l39 => k_is)
    (case c39 => k_is)
    (case k39 => k_is)
    (case a40 => k_is)
    (case l40 => k_is)
    (case c40 => k_is)
    (case k40 => k_is)
    (case a41 => k_is)
    (case i41 => k_is)
    (case l41 => k_is)
    (case c41 => k_is)
    (case k41 => k_is)
    (case a42 => k_is)
    (case i42 => k_is)
    (case l42 => k_is)
    (case c42 => k_is)
    (case k42 => k_is)
    (case a43 => k_is)
    (case l43 => k_is)
    (case c43 => k_is)
    (case k43 => k_is)
    (case a44 => k_is)
    (case l44 => k_is)
    (case c44 => k_is)
    (case k44 => k_is)
    (case a45 => k_is)
    (case l45 => k_is)
    (case c45 => k_is)
    (case k45 => k_is)
    (case a46 => k_is)
    (case l46 => k_is)
    (case c46 => k_is)
    (case k46 => k_is)
    (case a47 => k_is)
    (case i47 => k_is)
    (case l47 => k_is)
    (case c47 => k_is)
    (case k47 => k_is)
    (case a48 => k_is)
    (case l48 => k_is)
    (case c48 => k_is)
    (case k48 => k_is)
    (case a49 => k_is)
    (case l49 => k_is)
    (case c49 => k_is)
    (case k49 => k_is)
    (case a50 => k_is)
    (case l50 => k_is)
    (case c50 => k_is)
    (case k50 => k_is)
    (case a51 => k_is)
    (case l51 => k_is)
    (case c51 => k_is)
    (case k51 => k_is)
    (case a52 => k_is)
    (case l52 => k_is)
    (case c52 => k_is)
    (case k52 => k_is)
    (case a53 => k_is)
    (case l53 => k_is)
    (case c53 => k_is)
    (case k53 => k_is)
    (case a54 => k_is)
    (case l54 => k_is)
    (case c54 => k_is)
    (case k54 => k_is)
    (case a55 => k_is)
    (case l55 => k_is)
    (case c55 => k_is)
    (case k55 => k_is)
    (case a56 => k_is)
    (case l56 => k_is)
    (case c56 => k_is)
    (case k56 => k_is)
    (case a57 => k_is)
    (case l57 => k_is)
    (case c57 => k_is)
    (case k57 => k_is)
    (case a58 => k_is)
    (case l58 => k_is)
    (case c58 => k_is)
    (case k58 => k_is)
    (case a59 => k_is)
    (case l59 => k_is)
    (case c59 => k_is)
    (case k59 => k_is)
    (case a60 => k_is)
    (case l60 => k_is)
    (case c60 => k_is)
    (case k60 => k_is)
    (case a61 => k_is)
    (case l61 => k_is)
    (case c61 => k_is)
    (case k61 => k_is)
    (case a62 => k_is)
    (case l62 => k_is)
    (case c62 => k_is)
    (case k62 => k_is)
    (case a63 => k_is)
    (case l63 => k_is)
    (case c63 => k_is)
    (case k63 => k_is)
    (case a64 => k_is)
    (case i64 => k_is)
    (case l64 => k_is)
    (case c64 => k_is)
    (case k64 => k_is)
    (case a65 => k_is)
    (case l65 => k_is)
    (case c65 => k_is)
    (case k65 => k_is)
    (case a66 => k_is)
    (case l66 => k_is)
    (case c66 => k_is)
    (case k66 => k_is)
    (case a67 => k_is)
    (case i67 => k_is)
    (case l67 => k_is)
    (case c67 => k_is)
    (case k67 => k_is)
    (case a68 => k_is)
    (case l68 => k_is)
    (case c68 => k_is)
    (case k68 => k_is)
    (case a69 => k_is)
    (case l69 => k_is)
    (case c69 => k_is)
    (case k69 => k_is)
    (case a70 => k_is)
    (case i70 => k_is)
    (case l70 => k_is)
    (case c70 => k_is)
    (case k70 => k_is)
    (case a71 => k_is)
    (case l71 => k_is)
    (case c71 => k_is)
    (case k71 => k_is)
    (case a72 => k_is)
    (case i72 => k_is)
    (case l72 => k_is)
    (case c72 => k_is)
    (case k72 => k_is)
    (case a73 => k_is)
    (case l73 => k_is)
    (case c73 => k_is)
    (case k73 => k_is)
    (case a74 => k_is)
    (case l74 => k_is)
    (case c74 => k_is)
    (case k74 => k_is)
    (case b_len => k_is)
    (case b_int => k_is)
    (case b_sum => k_is)
    (case b_abs => k_is)
    (case b_range => k_is)
    (case b_max => k_is)
    (case b_list => k_is)
    (case b_isinstance => k_is)
    (case b_bool => k_is)
    (case b_tuple => k_is)
    (case g_BOOKS => k_is)
    (case g_ROWS => k_is)
    (case g_NUMBERS => k_is)
    (case g_AMOUNTS => k_is)
end
