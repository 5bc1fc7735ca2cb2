import PyProof.Rows.All
import Wide.All
import OpenK.AllK
import Wide.FinOn
import PySem.Challenge.RW_closedright_k91_whole_ranges_against_all
import HandS.ForMost
import HandS.EndBits
import HandS.IsInst
import HandS.Flow
import HandS.Style
import HandS.SortInts
import HandS.Conv
set_option Elab.async false
section
open PySem PySem.W PyProof.Rows
set_option Elab.async false
set_option maxRecDepth 100000 in
set_option maxHeartbeats 0 in
open_top hd for PySem.Challenge.rw_closedright_k91_whole_ranges_against_all
end
section
set_option linter.all false
set_option maxRecDepth 10000
/-! plain mathematics of rows, without any program -/
namespace G
abbrev Row := List Int
abbrev Mat := List (List Int)
def Bd (n : Nat) (i : Int) : Prop := i.natAbs < 2 ^ n
def at0 (r : List Int) (i : Nat) : Int := r.getD i 0
def ent (m : List (List Int)) (i p : Nat) : Int := at0 (m.getD i []) p
theorem range_get {n i : Nat} : (List.range n)[i]? = if i < n then some i else none := by
  split
  · rename_i h
    rw [List.getElem?_range h]
  · rename_i h
    rw [List.getElem?_eq_none (by rw [List.length_range]; omega)]
/-- r without n times o -/
def less (r : List Int) (n : Int) (o : List Int) : List Int := (List.range r.length).map fun i => at0 r i - n * at0 o i
theorem less_length (r : List Int) (n : Int) (o : List Int) : (less r n o).length = r.length := by simp [less]
theorem at0_map_range {n : Nat} {f : Nat → Int} {i : Nat} : at0 ((List.range n).map f) i = if i < n then f i else 0 := by
  unfold at0
  rw [List.getD_eq_getElem?_getD, List.getElem?_map, range_get]
  split <;> simp
theorem at0_out {r : List Int} {i : Nat} (h : r.length ≤ i) : at0 r i = 0 := by
  unfold at0
  rw [List.getD_eq_getElem?_getD, List.getElem?_eq_none h]
  rfl
theorem at0_some {r : List Int} {i : Nat} {z : Int} (h : r[i]? = some z) : at0 r i = z := by
  unfold at0
  rw [List.getD_eq_getElem?_getD, h]
  rfl
theorem at0_get {r : List Int} {i : Nat} (h : i < r.length) : r[i]? = some (at0 r i) := by
  unfold at0
  rw [List.getD_eq_getElem?_getD, List.getElem?_eq_getElem h]
  rfl
theorem at0_less {r o : List Int} {n : Int} {i : Nat} (h : r.length = o.length) : at0 (less r n o) i = at0 r i - n * at0 o i := by
  unfold less
  rw [at0_map_range]
  split
  · rfl
  · rename_i hi
    rw [at0_out (by omega), at0_out (by omega)]
    simp
theorem row_ext {r o : List Int} (h : r.length = o.length) (e : ∀ i, at0 r i = at0 o i) : r = o := by
  apply List.ext_getElem?
  intro i
  by_cases hi : i < r.length
  · rw [at0_get hi, at0_get (by omega), e]
  · rw [List.getElem?_eq_none (by omega), List.getElem?_eq_none (by omega)]
theorem less_zero {r o : List Int} (h : r.length = o.length) : less r 0 o = r := row_ext (less_length _ _ _) fun i => by rw [at0_less h]; simp
/-! ### the row with the least number, not 0, at a place -/
def lbStep (m : List (List Int)) (p : Nat) (b : Option Nat) (i : Nat) : Option Nat :=
  if ent m i p ≠ 0 ∧ (∀ j, b = some j → (ent m i p).natAbs < (ent m j p).natAbs) then some i else b
def lbF (m : List (List Int)) (p n : Nat) : Option Nat := (List.range n).foldl (lbStep m p) none
theorem lbF_succ (m : List (List Int)) (p n : Nat) : lbF m p (n + 1) = lbStep m p (lbF m p n) n := by
  unfold lbF
  rw [List.range_succ, List.foldl_append]
  rfl
def lb (m : List (List Int)) (p : Nat) : Option Nat := lbF m p m.length
theorem lbF_none {m : List (List Int)} {p n : Nat} (h : lbF m p n = none) : ∀ i, i < n → ent m i p = 0 := by
  induction n with
  | zero => intro i hi; omega
  | succ n ih =>
    rw [lbF_succ] at h
    unfold lbStep at h
    split at h
    · cases h
    · rename_i hc
      intro i hi
      by_cases e : i = n
      · subst e
        refine Decidable.byContradiction fun z => hc ⟨z, fun j q => ?_⟩
        rw [h] at q
        cases q
      · exact ih h i (by omega)
theorem lbF_some {m : List (List Int)} {p n b : Nat} (h : lbF m p n = some b) : b < n ∧ ent m b p ≠ 0 ∧ ∀ i, i < n → ent m i p ≠ 0 → (ent m b p).natAbs ≤ (ent m i p).natAbs := by
  induction n generalizing b with
  | zero => cases h
  | succ n ih =>
    rw [lbF_succ] at h
    unfold lbStep at h
    split at h
    · rename_i hc
      cases h
      refine ⟨by omega, hc.1, fun i hi hz => ?_⟩
      cases e : lbF m p n with
      | none =>
        by_cases q : i = n
        · rw [q]; exact Nat.le_refl _
        · exact absurd (lbF_none e i (by omega)) hz
      | some j =>
        obtain ⟨h1, h2, h3⟩ := ih e
        have h4 := hc.2 j e
        by_cases q : i = n
        · rw [q]; exact Nat.le_refl _
        · have := h3 i (by omega) hz
          omega
    · rename_i hc
      obtain ⟨h1, h2, h3⟩ := ih h
      refine ⟨by omega, h2, fun i hi hz => ?_⟩
      by_cases q : i = n
      · subst q
        refine Decidable.byContradiction fun z => hc ⟨hz, fun j e => ?_⟩
        rw [h] at e
        cases e
        omega
      · exact h3 i (by omega) hz
theorem ent_out {m : List (List Int)} {i p : Nat} (h : m.length ≤ i) : ent m i p = 0 := by
  unfold ent
  rw [List.getD_eq_getElem?_getD, List.getElem?_eq_none h]
  exact at0_out (Nat.zero_le _)
theorem lb_none {m : List (List Int)} {p : Nat} (h : lb m p = none) (i : Nat) : ent m i p = 0 := by
  by_cases hi : i < m.length
  · exact lbF_none h i hi
  · exact ent_out (by omega)
theorem lb_some {m : List (List Int)} {p b : Nat} (h : lb m p = some b) : b < m.length ∧ ent m b p ≠ 0 ∧ ∀ i, ent m i p ≠ 0 → (ent m b p).natAbs ≤ (ent m i p).natAbs := by
  obtain ⟨h1, h2, h3⟩ := lbF_some h
  refine ⟨h1, h2, fun i hz => h3 i ?_ hz⟩
  by_cases hi : i < m.length
  · exact hi
  · exact absurd (ent_out (by omega)) hz
/-! ### one round: all rows but one lessened -/
/-- what becomes of a row -/
def lsd (p : Nat) (l r : List Int) : List Int := less r ((at0 r p).fdiv (at0 l p)) l
def rndR (m : List (List Int)) (p b i : Nat) : List Int := if i ≠ b ∧ ent m i p ≠ 0 then lsd p (m.getD b []) (m.getD i []) else m.getD i []
/-- the first n rows are done -/
def rndF (m : List (List Int)) (p b n : Nat) : List (List Int) := (List.range m.length).map fun i => if i < n then rndR m p b i else m.getD i []
def rnd (m : List (List Int)) (p b : Nat) : List (List Int) := (List.range m.length).map (rndR m p b)
theorem getD_map_range {α : Type} {n : Nat} {f : Nat → List α} {i : Nat} : ((List.range n).map f).getD i [] = if i < n then f i else [] := by
  rw [List.getD_eq_getElem?_getD, List.getElem?_map, range_get]
  split <;> simp
theorem list_eq_range {α : Type} (m : List (List α)) : (List.range m.length).map (fun i => m.getD i []) = m := by
  apply List.ext_getElem?
  intro i
  rw [List.getElem?_map, range_get]
  by_cases h : i < m.length
  · rw [if_pos h, List.getElem?_eq_getElem h]
    simp [List.getD_eq_getElem?_getD, List.getElem?_eq_getElem h]
  · rw [if_neg h, List.getElem?_eq_none (by omega)]
    rfl
theorem rndF_zero (m : List (List Int)) (p b : Nat) : rndF m p b 0 = m := by
  unfold rndF
  simp only [Nat.not_lt_zero, if_false]
  exact list_eq_range m
theorem rndF_all (m : List (List Int)) (p b : Nat) : rndF m p b m.length = rnd m p b := by
  unfold rndF rnd
  apply List.map_congr_left
  intro i hi
  rw [if_pos (List.mem_range.mp hi)]
theorem rndF_length (m : List (List Int)) (p b n : Nat) : (rndF m p b n).length = m.length := by simp [rndF]
theorem rnd_length (m : List (List Int)) (p b : Nat) : (rnd m p b).length = m.length := by simp [rnd]
theorem rndF_get {m : List (List Int)} {p b n i : Nat} (h : i < m.length) : (rndF m p b n)[i]? = some (if i < n then rndR m p b i else m.getD i []) := by
  unfold rndF
  rw [List.getElem?_map, range_get, if_pos h]
  rfl
theorem rndF_succ {m : List (List Int)} {p b n : Nat} (h : n < m.length) : rndF m p b (n + 1) = (rndF m p b n).set n (rndR m p b n) := by
  apply List.ext_getElem?
  intro i
  by_cases hi : i < m.length
  · rw [rndF_get hi]
    by_cases e : i = n
    · subst e
      rw [if_pos (by omega), List.getElem?_set_self (by rw [rndF_length]; exact hi)]
    · rw [List.getElem?_set_ne (fun z => e z.symm), rndF_get hi]
      by_cases q : i < n
      · rw [if_pos (by omega), if_pos q]
      · rw [if_neg (by omega), if_neg q]
  · rw [List.getElem?_eq_none (by rw [rndF_length]; omega), List.getElem?_eq_none (by rw [List.length_set, rndF_length]; omega)]
theorem rndF_same {m : List (List Int)} {p b n : Nat} (h : n < m.length) (e : rndR m p b n = m.getD n []) : rndF m p b (n + 1) = rndF m p b n := by
  rw [rndF_succ h, e]
  apply List.ext_getElem?
  intro i
  by_cases q : i = n
  · subst q
    rw [List.getElem?_set_self (by rw [rndF_length]; exact h), rndF_get h, if_neg (by omega)]
  · rw [List.getElem?_set_ne (fun z => q z.symm)]
/-- all rows of one length -/
def Wid (w : Nat) (m : List (List Int)) : Prop := ∀ r ∈ m, r.length = w
theorem Wid.get {w : Nat} {m : List (List Int)} (h : Wid w m) {i : Nat} (hi : i < m.length) : (m.getD i []).length = w := by
  rw [List.getD_eq_getElem?_getD, List.getElem?_eq_getElem hi]
  exact h _ (List.getElem_mem hi)
theorem ent_rnd {m : List (List Int)} {p b i q : Nat} {w : Nat} (hw : Wid w m) (hb : b < m.length) (hi : i < m.length) :
    ent (rnd m p b) i q = if i ≠ b ∧ ent m i p ≠ 0 then ent m i q - (ent m i p).fdiv (ent m b p) * ent m b q else ent m i q := by
  unfold ent rnd
  rw [getD_map_range, if_pos hi]
  unfold rndR
  split
  · rename_i h
    rw [if_pos (by simpa [ent] using h)]
    unfold lsd
    rw [at0_less (by rw [hw.get hi, hw.get hb])]
  · rename_i h
    rw [if_neg (by simpa [ent] using h)]
theorem rnd_wid {m : List (List Int)} {p b w : Nat} (hw : Wid w m) : Wid w (rnd m p b) := by
  intro r hr
  obtain ⟨i, hi, rfl⟩ := List.mem_map.mp hr
  have hi := List.mem_range.mp hi
  unfold rndR
  split
  · unfold lsd
    rw [less_length, hw.get hi]
  · exact hw.get hi
/-- all places of the column but one are 0 -/
def Clean (m : List (List Int)) (p b : Nat) : Prop := ∀ i, i < m.length → i ≠ b → ent m i p = 0
instance (m : List (List Int)) (p b : Nat) : Decidable (Clean m p b) := by unfold Clean; infer_instance
def meas (m : List (List Int)) (p : Nat) : Nat := match lb m p with | none => 0 | some b => (ent m b p).natAbs
theorem fmod_small {a b : Int} (h : b ≠ 0) : (a - a.fdiv b * b).natAbs < b.natAbs := by
  have e : a - a.fdiv b * b = a.fmod b := by
    have := Int.mul_fdiv_add_fmod a b
    rw [Int.mul_comm] at this
    omega
  rw [e]
  rcases Int.lt_or_gt_of_ne h with q | q
  · have h1 := Int.fmod_lt_of_pos (-a) (show 0 < -b by omega)
    have h2 := Int.fmod_nonneg_of_pos (-a) (show 0 < -b by omega)
    rw [Int.neg_fmod_neg] at h1 h2
    omega
  · have h1 := Int.fmod_lt_of_pos a q
    have h2 := Int.fmod_nonneg_of_pos a q
    omega
theorem meas_le {m : List (List Int)} {p i : Nat} (h : ent m i p ≠ 0) : meas m p ≤ (ent m i p).natAbs := by
  unfold meas
  cases e : lb m p with
  | none => exact absurd (lb_none e i) h
  | some b => exact (lb_some e).2.2 i h
theorem meas_rnd {m : List (List Int)} {p b w : Nat} (hw : Wid w m) (e : lb m p = some b) (h : ¬ Clean (rnd m p b) p b) : meas (rnd m p b) p < meas m p := by
  obtain ⟨hb, hz, hm⟩ := lb_some e
  have : ∃ i, i < (rnd m p b).length ∧ i ≠ b ∧ ent (rnd m p b) i p ≠ 0 := by
    refine Classical.byContradiction fun q => h fun i hi hb => ?_
    exact Decidable.byContradiction fun z => q ⟨i, hi, hb, z⟩
  obtain ⟨i, hi, hib, hn⟩ := this
  rw [rnd_length] at hi
  have h1 := meas_le hn
  have h2 : (ent (rnd m p b) i p).natAbs < (ent m b p).natAbs := by
    rw [ent_rnd hw hb hi] at hn ⊢
    split
    · exact fmod_small hz
    · rename_i q
      rw [if_neg q] at hn
      exact absurd ⟨hib, hn⟩ q
  have h3 : meas m p = (ent m b p).natAbs := by
    unfold meas
    rw [e]
  omega
end G
end
section
set_option linter.all false
set_option maxRecDepth 10000
namespace G
/-! ### pulling a row -/
def norm (l : Row) (p : Nat) : Row := if 0 < at0 l p then l else l.map fun x => -x
def pullF : Nat → Mat → Nat → Option Row × Mat
  | 0, m, _ => (none, m)
  | n + 1, m, p => match lb m p with
    | none => (none, m)
    | some b => if Clean (rnd m p b) p b then (some (norm (m.getD b []) p), (rnd m p b).eraseIdx b) else pullF n (rnd m p b) p
def pull (m : Mat) (p : Nat) : Option Row × Mat := pullF (meas m p + 1) m p
theorem pullF_eq {w : Nat} : ∀ {n k : Nat} {m : Mat} {p : Nat}, Wid w m → meas m p < n → meas m p < k → pullF n m p = pullF k m p
  | 0, _, _, _, _, h, _ => by omega
  | _ + 1, 0, _, _, _, _, h => by omega
  | n + 1, k + 1, m, p, hw, h1, h2 => by
    unfold pullF
    cases e : lb m p with
    | none => rfl
    | some b =>
      dsimp only
      split
      · rfl
      · rename_i hc
        have := meas_rnd hw e hc
        exact pullF_eq (rnd_wid hw) (by omega) (by omega)
theorem pull_none {m : Mat} {p : Nat} (e : lb m p = none) : pull m p = (none, m) := by
  unfold pull pullF
  rw [e]
theorem pull_clean {m : Mat} {p b : Nat} (e : lb m p = some b) (h : Clean (rnd m p b) p b) : pull m p = (some (norm (m.getD b []) p), (rnd m p b).eraseIdx b) := by
  unfold pull pullF
  rw [e]
  dsimp only
  rw [if_pos h]
theorem pull_step {m : Mat} {p b w : Nat} (hw : Wid w m) (e : lb m p = some b) (h : ¬ Clean (rnd m p b) p b) : pull m p = pull (rnd m p b) p := by
  have := meas_rnd hw e h
  unfold pull
  rw [pullF, e]
  dsimp only
  rw [if_neg h]
  exact pullF_eq (rnd_wid hw) (by omega) (by omega)
/-- where one alone is not 0 nothing is lessened -/
theorem rnd_alone {m : Mat} {p b : Nat} (h : Clean m p b) : rnd m p b = m := by
  unfold rnd
  conv => rhs; rw [← list_eq_range m]
  apply List.map_congr_left
  intro i hi
  unfold rndR
  rw [if_neg]
  rintro ⟨h1, h2⟩
  exact h2 (h i (List.mem_range.mp hi) h1)
/-! ### how great the numbers become -/
def Le (M : Nat) (m : Mat) : Prop := ∀ i j, (ent m i j).natAbs ≤ M
structure Pot (m : Mat) (p X A F : Nat) : Prop where
  x : Le X m
  a : ∀ i, (ent m i p).natAbs ≤ A
  s : (∀ i, 0 ≤ ent m i p) ∨ ∀ i, ent m i p ≤ 0
  t : ∃ i, i < m.length ∧ (ent m i p).natAbs = A
  f : X * A * (A * meas m p) ≤ F
theorem ent_rnd' {m : Mat} {p b i q w : Nat} (hw : Wid w m) (hb : b < m.length) :
    ent (rnd m p b) i q = if i ≠ b ∧ ent m i p ≠ 0 then ent m i q - (ent m i p).fdiv (ent m b p) * ent m b q else ent m i q := by
  by_cases hi : i < m.length
  · exact ent_rnd hw hb hi
  · rw [ent_out (by rw [rnd_length]; omega), ent_out (m := m) (i := i) (p := p) (by omega), ent_out (m := m) (i := i) (p := q) (by omega)]
    simp
theorem natAbs_sub_le (a b : Int) : (a - b).natAbs ≤ a.natAbs + b.natAbs := by omega
theorem fdiv_abs_le {a b : Int} (h : b ≠ 0) : (a.fdiv b).natAbs ≤ a.natAbs / b.natAbs + 1 := by
  have e := Int.fmod_add_fdiv_mul a b
  have hs := fmod_small (a := a) h
  have e2 : a - a.fdiv b * b = a.fmod b := by omega
  rw [e2] at hs
  have hb : 0 < b.natAbs := by omega
  have h1 : (a.fdiv b * b).natAbs ≤ a.natAbs + (a.fmod b).natAbs := by omega
  rw [Int.natAbs_mul] at h1
  have h2 : (a.fdiv b).natAbs * b.natAbs < (a.natAbs / b.natAbs + 2) * b.natAbs := by
    have := Nat.div_add_mod a.natAbs b.natAbs
    have h3 := Nat.mod_lt a.natAbs hb
    rw [Nat.add_mul, Nat.mul_comm (a.natAbs / b.natAbs)]
    omega
  have := Nat.lt_of_mul_lt_mul_right h2
  omega
theorem fdiv_abs_same {a b : Int} (h : b ≠ 0) (s : (0 ≤ a ∧ 0 ≤ b) ∨ (a ≤ 0 ∧ b ≤ 0)) : (a.fdiv b).natAbs = a.natAbs / b.natAbs := by
  have pos : ∀ a b : Int, 0 ≤ a → 0 < b → (a.fdiv b).natAbs = a.natAbs / b.natAbs := fun a b h1 h2 => by
    obtain ⟨x, rfl⟩ := Int.eq_ofNat_of_zero_le h1
    obtain ⟨y, rfl⟩ := Int.eq_ofNat_of_zero_le (Int.le_of_lt h2)
    rw [Int.fdiv_eq_ediv_of_nonneg _ (Int.le_of_lt h2)]
    simp [← Int.natCast_ediv]
  rcases s with ⟨h1, h2⟩ | ⟨h1, h2⟩
  · exact pos a b h1 (by omega)
  · have := pos (-a) (-b) (by omega) (by omega)
    rw [Int.neg_fdiv_neg] at this
    simpa using this
theorem rem_sign {a b : Int} (h : b ≠ 0) : (0 < b → 0 ≤ a - a.fdiv b * b) ∧ (b < 0 → a - a.fdiv b * b ≤ 0) := by
  have e := Int.fmod_add_fdiv_mul a b
  have e2 : a - a.fdiv b * b = a.fmod b := by omega
  rw [e2]
  refine ⟨fun q => Int.fmod_nonneg_of_pos a q, fun q => ?_⟩
  have h2 := Int.fmod_nonneg_of_pos (-a) (show 0 < -b by omega)
  rw [Int.neg_fmod_neg] at h2
  omega
theorem rem_abs_same {a b : Int} (h : b ≠ 0) (s : (0 ≤ a ∧ 0 ≤ b) ∨ (a ≤ 0 ∧ b ≤ 0)) : (a - a.fdiv b * b).natAbs = a.natAbs % b.natAbs := by
  have e := Int.fmod_add_fdiv_mul a b
  have e2 : a - a.fdiv b * b = a.fmod b := by omega
  rw [e2]
  have pos : ∀ a b : Int, 0 ≤ a → 0 < b → (a.fmod b).natAbs = a.natAbs % b.natAbs := fun a b h1 h2 => by
    obtain ⟨x, rfl⟩ := Int.eq_ofNat_of_zero_le h1
    obtain ⟨y, rfl⟩ := Int.eq_ofNat_of_zero_le (Int.le_of_lt h2)
    rw [Int.fmod_eq_emod_of_nonneg _ (Int.le_of_lt h2)]
    simp [← Int.natCast_emod]
  rcases s with ⟨h1, h2⟩ | ⟨h1, h2⟩
  · exact pos a b h1 (by omega)
  · have := pos (-a) (-b) (by omega) (by omega)
    rw [Int.neg_fmod_neg] at this
    simpa using this
/-- entries behind a round, with the quotients bounded -/
theorem rnd_le {m : Mat} {p b w X q : Nat} (hw : Wid w m) (hb : b < m.length) (hx : Le X m) (hq : ∀ i, ((ent m i p).fdiv (ent m b p)).natAbs ≤ q) : Le (X * (1 + q)) (rnd m p b) := by
  intro i j
  rw [ent_rnd' hw hb]
  have h1 := hx i j
  have h2 := hx b j
  have h3 : X ≤ X * (1 + q) := Nat.le_mul_of_pos_right _ (by omega)
  split
  · refine Nat.le_trans (natAbs_sub_le _ _) ?_
    rw [Int.natAbs_mul, Nat.mul_add, Nat.mul_one, Nat.mul_comm X q]
    exact Nat.add_le_add h1 (Nat.mul_le_mul (hq i) h2)
  · omega
theorem meas_eq {m : Mat} {p b : Nat} (e : lb m p = some b) : meas m p = (ent m b p).natAbs := by
  unfold meas
  rw [e]
theorem rnd_col {m : Mat} {p b w : Nat} (hw : Wid w m) (e : lb m p = some b) (i : Nat) : (ent (rnd m p b) i p).natAbs ≤ meas m p ∧ (i ≠ b → (ent (rnd m p b) i p).natAbs < meas m p) ∧ ent (rnd m p b) b p = ent m b p := by
  obtain ⟨hb, hz, hm⟩ := lb_some e
  have e0 := meas_eq e
  have hbb : ent (rnd m p b) b p = ent m b p := by
    rw [ent_rnd' hw hb, if_neg (by simp)]
  have key : i ≠ b → (ent (rnd m p b) i p).natAbs < meas m p := fun hi => by
    rw [ent_rnd' hw hb]
    split
    · rw [e0]
      exact fmod_small hz
    · rename_i h
      have : ent m i p = 0 := Decidable.byContradiction fun z => h ⟨hi, z⟩
      rw [this]
      omega
  refine ⟨?_, key, hbb⟩
  by_cases h : i = b
  · rw [h, hbb]
    omega
  · exact Nat.le_of_lt (key h)
theorem rnd_sign {m : Mat} {p b w : Nat} (hw : Wid w m) (e : lb m p = some b) : (∀ i, 0 ≤ ent (rnd m p b) i p) ∨ ∀ i, ent (rnd m p b) i p ≤ 0 := by
  obtain ⟨hb, hz, hm⟩ := lb_some e
  rcases Int.lt_or_gt_of_ne hz with q | q
  · refine .inr fun i => ?_
    rw [ent_rnd' hw hb]
    split
    · exact (rem_sign hz).2 q
    · rename_i h
      by_cases hi : i = b
      · rw [hi]; omega
      · have : ent m i p = 0 := Decidable.byContradiction fun z => h ⟨hi, z⟩
        omega
  · refine .inl fun i => ?_
    rw [ent_rnd' hw hb]
    split
    · exact (rem_sign hz).1 q
    · rename_i h
      by_cases hi : i = b
      · rw [hi]; omega
      · have : ent m i p = 0 := Decidable.byContradiction fun z => h ⟨hi, z⟩
        omega
theorem pos_of_dirty {m : Mat} {p b w : Nat} (hw : Wid w m) (e : lb m p = some b) (h : ¬ Clean (rnd m p b) p b) : ∃ i, i ≠ b ∧ ent (rnd m p b) i p ≠ 0 := by
  refine Classical.byContradiction fun q => h fun i _ hb => ?_
  exact Decidable.byContradiction fun z => q ⟨i, hb, z⟩
theorem Pot.step {m : Mat} {p b w X A F : Nat} (P : Pot m p X A F) (hw : Wid w m) (e : lb m p = some b) :
    Le (X * (1 + A / meas m p)) (rnd m p b) ∧ X * (1 + A / meas m p) ≤ 2 * F ∧ X ≤ F ∧ (¬ Clean (rnd m p b) p b → Pot (rnd m p b) p (X * (1 + A / meas m p)) (meas m p) F) := by
  obtain ⟨hb, hz, hm⟩ := lb_some e
  have e0 := meas_eq e
  have a1 : 0 < meas m p := by omega
  have aA : meas m p ≤ A := e0 ▸ P.a b
  have sgn : ∀ i, (0 ≤ ent m i p ∧ 0 ≤ ent m b p) ∨ (ent m i p ≤ 0 ∧ ent m b p ≤ 0) := fun i => by
    rcases P.s with s | s
    · exact .inl ⟨s i, s b⟩
    · exact .inr ⟨s i, s b⟩
  have hq : ∀ i, ((ent m i p).fdiv (ent m b p)).natAbs ≤ A / meas m p := fun i => by
    rw [fdiv_abs_same hz (sgn i), ← e0]
    exact Nat.div_le_div_right (P.a i)
  have hle := rnd_le hw hb P.x hq
  have h2A : (1 + A / meas m p) * meas m p ≤ 2 * A := by
    rw [Nat.add_mul, Nat.one_mul]
    have := Nat.div_mul_le_self A (meas m p)
    omega
  have hXA : X * A ≤ F := by
    refine Nat.le_trans ?_ P.f
    exact Nat.le_mul_of_pos_right _ (Nat.mul_pos (by omega) a1)
  have hX2 : X * (1 + A / meas m p) * meas m p ≤ 2 * (X * A) := by
    rw [Nat.mul_assoc]
    refine Nat.le_trans (Nat.mul_le_mul_left X h2A) ?_
    rw [Nat.mul_left_comm]
    exact Nat.le_refl _
  refine ⟨hle, ?_, ?_, fun hc => ?_⟩
  · have : X * (1 + A / meas m p) ≤ X * (1 + A / meas m p) * meas m p := Nat.le_mul_of_pos_right _ a1
    omega
  · exact Nat.le_trans (Nat.le_mul_of_pos_right _ (by omega)) hXA
  · obtain ⟨i1, hi1, hn1⟩ := pos_of_dirty hw e hc
    have hsm : 2 * meas (rnd m p b) p ≤ A := by
      have h1 := meas_le hn1
      have h2 := (rnd_col hw e i1).2.1 hi1
      obtain ⟨i0, hi0, hA⟩ := P.t
      by_cases hEq : A = meas m p
      · -- then all is clean
        exfalso
        rw [ent_rnd' hw hb] at hn1
        split at hn1
        · rename_i hc1
          have hge := hm i1 hc1.2
          have hle1 := P.a i1
          have e1 : (ent m i1 p).natAbs = (ent m b p).natAbs := by omega
          have h3 := rem_abs_same hz (sgn i1)
          rw [e1, Nat.mod_self] at h3
          exact hn1 (Int.natAbs_eq_zero.mp h3)
        · rename_i hc1
          exact hc1 ⟨hi1, hn1⟩
      · have hib : i0 ≠ b := fun z => by
          rw [z] at hA
          omega
        have h0 : ent m i0 p ≠ 0 := by omega
        have h4 : (ent (rnd m p b) i0 p).natAbs = A % meas m p := by
          rw [ent_rnd' hw hb, if_pos ⟨hib, h0⟩, rem_abs_same hz (sgn i0), hA, e0]
        by_cases hr : A % meas m p = 0
        · have h5 : 2 * meas m p ≤ A := by
            have := Nat.div_add_mod A (meas m p)
            rw [hr, Nat.add_zero] at this
            have h6 : 2 ≤ A / meas m p := by
              refine Decidable.byContradiction fun z => ?_
              have h7 : A / meas m p = 0 ∨ A / meas m p = 1 := by
                generalize A / meas m p = k at z
                omega
              rcases h7 with h7 | h7 <;> (rw [h7] at this; omega)
            have := Nat.mul_le_mul_left (meas m p) h6
            omega
          omega
        · have h5 : ent (rnd m p b) i0 p ≠ 0 := by omega
          have h6 := meas_le h5
          have h7 : A % meas m p ≤ A - meas m p := by
            have h8 := Nat.div_add_mod A (meas m p)
            have h9 : 1 ≤ A / meas m p := Nat.div_pos aA a1
            have := Nat.mul_le_mul_left (meas m p) h9
            omega
          omega
    refine ⟨hle, fun i => (rnd_col hw e i).1, rnd_sign hw e, ⟨b, by rw [rnd_length]; exact hb, by rw [(rnd_col hw e b).2.2, e0]⟩, ?_⟩
    refine Nat.le_trans ?_ P.f
    have h1 : X * (1 + A / meas m p) * meas m p * (meas m p * meas (rnd m p b) p) ≤ 2 * (X * A) * (meas m p * meas (rnd m p b) p) := Nat.mul_le_mul_right _ hX2
    refine Nat.le_trans h1 ?_
    have h2 : 2 * (X * A) * (meas m p * meas (rnd m p b) p) = X * A * (meas m p * (2 * meas (rnd m p b) p)) := by
      rw [Nat.mul_comm 2 (X * A), Nat.mul_assoc (X * A), Nat.mul_left_comm 2]
    rw [h2]
    refine Nat.mul_le_mul_left _ ?_
    rw [Nat.mul_comm A]
    exact Nat.mul_le_mul_left _ hsm
/-- a state of the pull of a matrix whose numbers are at most M -/
def PB (M : Nat) (m : Mat) (p : Nat) : Prop := Le M m ∨ ∃ X A, Pot m p X A (3 * M ^ 4)
theorem pow4 (M : Nat) : M ^ 4 = M * M * (M * M) := by
  show M ^ (2 + 2) = _
  rw [Nat.pow_add, Nat.pow_two]
theorem PB.step {M : Nat} {m : Mat} {p b w : Nat} (h : PB M m p) (hM : 0 < M) (hw : Wid w m) (e : lb m p = some b) :
    Le (3 * M ^ 4) m ∧ Le (6 * M ^ 4) (rnd m p b) ∧ (¬ Clean (rnd m p b) p b → PB M (rnd m p b) p) := by
  have hp4 := pow4 M
  have hMM : 1 ≤ M * M := Nat.mul_pos hM hM
  have hM2 : M ≤ M * M := Nat.le_mul_of_pos_right _ hM
  have hM4 : M * M ≤ M * M * (M * M) := Nat.le_mul_of_pos_right _ hMM
  rcases h with h | ⟨X, A, P⟩
  · obtain ⟨hb, hz, hm⟩ := lb_some e
    have e0 := meas_eq e
    have a1 : 0 < meas m p := by omega
    have aM : meas m p ≤ M := e0 ▸ h b p
    have hq : ∀ i, ((ent m i p).fdiv (ent m b p)).natAbs ≤ M / meas m p + 1 := fun i => by
      refine Nat.le_trans (fdiv_abs_le hz) ?_
      rw [← e0]
      exact Nat.add_le_add_right (Nat.div_le_div_right (h i p)) 1
    have hle := rnd_le hw hb h hq
    have hd : M / meas m p ≤ M := Nat.div_le_self _ _
    refine ⟨fun i j => ?_, fun i j => ?_, fun hc => .inr ⟨_, meas m p, hle, fun i => (rnd_col hw e i).1, rnd_sign hw e, ⟨b, by rw [rnd_length]; exact hb, by rw [(rnd_col hw e b).2.2, e0]⟩, ?_⟩⟩
    · have := h i j
      omega
    · refine Nat.le_trans (hle i j) ?_
      have h1 : M * (1 + (M / meas m p + 1)) ≤ M * (3 * M) := Nat.mul_le_mul_left M (by omega)
      have h2 : M * (3 * M) = 3 * (M * M) := Nat.mul_left_comm M 3 M
      omega
    · obtain ⟨i1, hi1, hn1⟩ := pos_of_dirty hw e hc
      have h1 := meas_le hn1
      have h2 := (rnd_col hw e i1).2.1 hi1
      have h3 : (1 + (M / meas m p + 1)) * meas m p ≤ 3 * M := by
        rw [Nat.add_mul, Nat.add_mul, Nat.one_mul]
        have := Nat.div_mul_le_self M (meas m p)
        omega
      have h4 : M * (1 + (M / meas m p + 1)) * meas m p ≤ 3 * (M * M) := by
        rw [Nat.mul_assoc]
        refine Nat.le_trans (Nat.mul_le_mul_left M h3) ?_
        rw [Nat.mul_left_comm]
        exact Nat.le_refl _
      have h5 : meas m p * meas (rnd m p b) p ≤ M * M := Nat.mul_le_mul aM (by omega)
      refine Nat.le_trans (Nat.mul_le_mul h4 h5) ?_
      rw [hp4, Nat.mul_assoc]
      exact Nat.le_refl _
  · obtain ⟨h1, h2, h3, h4⟩ := P.step hw e
    refine ⟨fun i j => Nat.le_trans (P.x i j) h3, fun i j => Nat.le_trans (h1 i j) (by omega), fun hc => .inr ⟨_, _, h4 hc⟩⟩
end G
end
section
set_option linter.all false
set_option maxRecDepth 10000
namespace G
/-! ### a pull, told -/
theorem pull_cases {w p : Nat} {P : Mat → Prop} (hs : ∀ m b, Wid w m → P m → lb m p = some b → ¬ Clean (rnd m p b) p b → P (rnd m p b)) : ∀ (n : Nat) (m : Mat), meas m p < n → Wid w m → P m →
    (pull m p = (none, m) ∧ lb m p = none) ∨ ∃ m1 b, Wid w m1 ∧ m1.length = m.length ∧ P m1 ∧ lb m1 p = some b ∧ Clean (rnd m1 p b) p b ∧ pull m p = (some (norm (m1.getD b []) p), (rnd m1 p b).eraseIdx b)
  | 0, m, h, _, _ => by omega
  | n + 1, m, h, hw, hP => by
    cases e : lb m p with
    | none => exact .inl ⟨pull_none e, rfl⟩
    | some b =>
      by_cases hc : Clean (rnd m p b) p b
      · exact .inr ⟨m, b, hw, rfl, hP, e, hc, pull_clean e hc⟩
      · have h1 := meas_rnd hw e hc
        rw [pull_step hw e hc]
        rcases pull_cases hs n (rnd m p b) (by omega) (rnd_wid hw) (hs m b hw hP e hc) with ⟨_, q⟩ | ⟨m1, b1, h2, h3, h4⟩
        · -- the round left something that is not 0
          obtain ⟨i, _, hi⟩ := pos_of_dirty hw e hc
          exact absurd (lb_none q i) hi
        · exact .inr ⟨m1, b1, h2, by rw [h3, rnd_length], h4⟩
/-- numbers of a row at most X -/
def RB (X : Nat) (r : Row) : Prop := ∀ j, (at0 r j).natAbs ≤ X
theorem getD_mem {m : Mat} {i : Nat} (h : i < m.length) : m.getD i [] ∈ m := by
  rw [List.getD_eq_getElem?_getD, List.getElem?_eq_getElem h]
  exact List.getElem_mem h
theorem mem_getD {m : Mat} {r : Row} (h : r ∈ m) : ∃ i, i < m.length ∧ m.getD i [] = r := by
  obtain ⟨i, hi, e⟩ := List.getElem_of_mem h
  exact ⟨i, hi, by rw [List.getD_eq_getElem?_getD, List.getElem?_eq_getElem hi]; exact e⟩
theorem le_iff {X : Nat} {m : Mat} : Le X m ↔ ∀ r ∈ m, RB X r := by
  constructor
  · intro h r hr j
    obtain ⟨i, _, e⟩ := mem_getD hr
    have := h i j
    unfold ent at this
    rw [e] at this
    exact this
  · intro h i j
    by_cases hi : i < m.length
    · exact h _ (getD_mem hi) j
    · rw [ent_out (by omega)]
      exact Nat.zero_le _
theorem at0_neg {l : Row} {i : Nat} : at0 (l.map fun x => -x) i = - at0 l i := by
  unfold at0
  rw [List.getD_eq_getElem?_getD, List.getD_eq_getElem?_getD, List.getElem?_map]
  cases l[i]? <;> simp
theorem at0_norm {l : Row} {p i : Nat} : (at0 (norm l p) i).natAbs = (at0 l i).natAbs := by
  unfold norm
  split
  · rfl
  · rw [at0_neg]
    omega
theorem norm_length {l : Row} {p : Nat} : (norm l p).length = l.length := by
  unfold norm
  split <;> simp
theorem norm_pos {l : Row} {p : Nat} (h : at0 l p ≠ 0) : 0 < at0 (norm l p) p := by
  unfold norm
  split
  · assumption
  · rw [at0_neg]
    omega
/-- what a pull that finds a row does -/
structure Pulled (w p b : Nat) (m : Mat) (r : Row) (m' : Mat) : Prop where
  rl : r.length = w
  wid : Wid w m'
  len : m'.length + 1 = m.length
  pos : 0 < at0 r p
  zero : ∀ i, ent m' i p = 0
theorem erase_mem {m : Mat} {i : Nat} {r : Row} (h : r ∈ m.eraseIdx i) : r ∈ m := List.mem_of_mem_eraseIdx h
theorem ent_erase {m : Mat} {b i p : Nat} (h : Clean m p b) : ent (m.eraseIdx b) i p = 0 := by
  unfold ent
  rw [List.getD_eq_getElem?_getD, List.getElem?_eraseIdx]
  split
  · rename_i hi
    have hz := h i
    unfold ent at hz
    rw [List.getD_eq_getElem?_getD] at hz
    by_cases hl : i < m.length
    · exact hz hl (by omega)
    · rw [List.getElem?_eq_none (by omega)]
      exact at0_out (Nat.zero_le _)
  · rename_i hi
    have hz := h (i + 1)
    unfold ent at hz
    rw [List.getD_eq_getElem?_getD] at hz
    by_cases hl : i + 1 < m.length
    · exact hz hl (by omega)
    · rw [List.getElem?_eq_none (by omega)]
      exact at0_out (Nat.zero_le _)
theorem clean_rnd {m : Mat} {p b : Nat} (h : Clean (rnd m p b) p b) : Clean (rnd m p b) p b := h
theorem bits4 {b : Nat} : 6 * (2 ^ b) ^ 4 ≤ 2 ^ (4 * b + 3) := by
  rw [Nat.pow_add, ← Nat.pow_mul, Nat.mul_comm b 4, Nat.mul_comm]
  exact Nat.mul_le_mul_left _ (by decide)
theorem bits3 {b : Nat} : 3 * (2 ^ b) ^ 4 ≤ 2 ^ (4 * b + 2) := by
  rw [Nat.pow_add, ← Nat.pow_mul, Nat.mul_comm b 4, Nat.mul_comm]
  exact Nat.mul_le_mul_left _ (by decide)
/-- the row that is pulled, and what is left -/
theorem pull_some {w p : Nat} {m : Mat} {r : Row} {m' : Mat} (hw : Wid w m) (h : pull m p = (some r, m')) : r.length = w ∧ Wid w m' ∧ m'.length + 1 = m.length ∧ 0 < at0 r p ∧ (∀ i, ent m' i p = 0) := by
  rcases pull_cases (w := w) (p := p) (P := fun _ => True) (fun _ _ _ _ _ _ => trivial) _ m (Nat.lt_succ_self _) hw trivial with ⟨q, _⟩ | ⟨m1, b, h1, h2, _, h3, h4, q⟩
  · rw [q] at h
    cases h
  · rw [q] at h
    injection h with ha hb
    injection ha with ha
    subst ha hb
    obtain ⟨hb, hz, _⟩ := lb_some h3
    refine ⟨by rw [norm_length]; exact h1.get hb, fun r hr => rnd_wid h1 r (erase_mem hr), ?_, norm_pos hz, fun i => ent_erase h4⟩
    rw [List.length_eraseIdx, rnd_length, if_pos hb]
    omega
theorem pull_no {w p : Nat} {m m' : Mat} (hw : Wid w m) (h : pull m p = (none, m')) : m' = m ∧ ∀ i, ent m i p = 0 := by
  rcases pull_cases (w := w) (p := p) (P := fun _ => True) (fun _ _ _ _ _ _ => trivial) _ m (Nat.lt_succ_self _) hw trivial with ⟨q, e⟩ | ⟨m1, b, h1, h2, _, h3, h4, q⟩
  · rw [q] at h
    injection h with _ hb
    exact ⟨hb.symm, lb_none e⟩
  · rw [q] at h
    cases h
/-- what is so of all rows and stays with sums stays with a pull -/
theorem pull_all {w p : Nat} {m : Mat} {S : Row → Prop} (hw : Wid w m) (hS : ∀ r ∈ m, S r) (hl : ∀ r o n, r.length = w → o.length = w → S r → S o → S (less r n o)) (hn : ∀ r, r.length = w → S r → S (r.map fun x => -x)) :
    (∀ r, (pull m p).1 = some r → S r) ∧ ∀ r ∈ (pull m p).2, S r := by
  have rs : ∀ m b, Wid w m → b < m.length → (∀ r ∈ m, S r) → ∀ r ∈ rnd m p b, S r := fun m b hw hb h r hr => by
    obtain ⟨i, hi, rfl⟩ := List.mem_map.mp hr
    have hi := List.mem_range.mp hi
    unfold rndR
    split
    · exact hl _ _ _ (hw.get hi) (hw.get hb) (h _ (getD_mem hi)) (h _ (getD_mem hb))
    · exact h _ (getD_mem hi)
  rcases pull_cases (w := w) (p := p) (P := fun m => ∀ r ∈ m, S r) (fun m b h1 h2 h3 _ => rs m b h1 (lb_some h3).1 h2) _ m (Nat.lt_succ_self _) hw hS with ⟨q, e⟩ | ⟨m1, b, h1, h2, hP, h3, h4, q⟩
  · rw [q]
    exact ⟨fun r h => (by cases h), hS⟩
  · rw [q]
    have hb := (lb_some h3).1
    refine ⟨fun r h => ?_, fun r hr => rs m1 b h1 hb hP r (erase_mem hr)⟩
    cases h
    unfold norm
    split
    · exact hP _ (getD_mem hb)
    · exact hn _ (h1.get hb) (hP _ (getD_mem hb))
/-- sizes behind a pull -/
theorem pull_size {w p b : Nat} {m : Mat} (hw : Wid w m) (h : Le (2 ^ b) m) : (∀ r, (pull m p).1 = some r → RB (2 ^ (4 * b + 3)) r) ∧ Le (2 ^ (4 * b + 3)) (pull m p).2 := by
  have hp : 0 < 2 ^ b := Nat.pow_pos (by decide)
  have hm : (2 ^ b) ≤ 2 ^ (4 * b + 3) := Nat.pow_le_pow_right (by decide) (by omega)
  rcases pull_cases (w := w) (p := p) (P := fun m => PB (2 ^ b) m p) (fun m b h1 h2 h3 h4 => (h2.step hp h1 h3).2.2 h4) _ m (Nat.lt_succ_self _) hw (.inl h) with ⟨q, e⟩ | ⟨m1, b1, h1, h2, hP, h3, h4, q⟩
  · rw [q]
    exact ⟨fun r h => (by cases h), fun i j => Nat.le_trans (h i j) hm⟩
  · rw [q]
    obtain ⟨a1, a2, _⟩ := hP.step hp h1 h3
    have hb := (lb_some h3).1
    refine ⟨fun r h => ?_, le_iff.mpr fun r hr => ?_⟩
    · cases h
      intro j
      rw [at0_norm]
      refine Nat.le_trans (a1 b1 j) (Nat.le_trans bits3 (Nat.pow_le_pow_right (by decide) (by omega)))
    · intro j
      exact Nat.le_trans (le_iff.mp a2 r (erase_mem hr) j) bits4
/-! ### stairs -/
def stStep (s : Mat × Mat) (p : Nat) : Mat × Mat := match pull s.2 p with
  | (none, l) => (s.1, l)
  | (some r, l) => (s.1.map (lsd p r) ++ [r], l)
def stF (m : Mat) (n : Nat) : Mat × Mat := (List.range n).foldl stStep ([], m)
theorem stF_zero (m : Mat) : stF m 0 = ([], m) := rfl
theorem stF_succ (m : Mat) (n : Nat) : stF m (n + 1) = stStep (stF m n) n := by
  unfold stF
  rw [List.range_succ, List.foldl_append]
  rfl
def stairs (m : Mat) (w : Nat) : Mat := (stF m w).1
/-- the places of the leads are told: rows in order -/
structure Hs (w : Nat) (S : Mat) (L : List Nat) : Prop where
  len : S.length = L.length
  wid : Wid w S
  up : ∀ (i j a b : Nat), i < j → L[i]? = some a → L[j]? = some b → a < b
  lt : ∀ (i q : Nat), L[i]? = some q → q < w
  zero : ∀ (i q j : Nat), L[i]? = some q → j < q → ent S i j = 0
  pos : ∀ (i q : Nat), L[i]? = some q → 0 < ent S i q
  red : ∀ (i k q : Nat), i < k → L[k]? = some q → 0 ≤ ent S i q ∧ ent S i q < ent S k q
theorem lsd_length {p : Nat} {l r : Row} : (lsd p l r).length = r.length := less_length _ _ _
theorem at0_lsd {p i : Nat} {l r : Row} (h : r.length = l.length) : at0 (lsd p l r) i = at0 r i - (at0 r p).fdiv (at0 l p) * at0 l i := at0_less h
theorem lsd_rem {p : Nat} {l r : Row} (h : r.length = l.length) (hp : 0 < at0 l p) : 0 ≤ at0 (lsd p l r) p ∧ at0 (lsd p l r) p < at0 l p := by
  rw [at0_lsd h]
  have h1 := (rem_sign (a := at0 r p) (b := at0 l p) (by omega)).1 hp
  have h2 := fmod_small (a := at0 r p) (b := at0 l p) (by omega)
  omega
theorem ent_app {S : Mat} {r : Row} {i j : Nat} : ent (S ++ [r]) i j = if i < S.length then ent S i j else if i = S.length then at0 r j else 0 := by
  unfold ent
  rw [List.getD_eq_getElem?_getD, List.getElem?_append]
  split
  · rw [List.getD_eq_getElem?_getD]
  · split
    · rename_i h1 h2
      simp [h2]
    · rename_i h1 h2
      rw [List.getElem?_eq_none (by simp; omega)]
      exact at0_out (Nat.zero_le _)
theorem ent_map {S : Mat} {f : Row → Row} {i j : Nat} (h : i < S.length) : ent (S.map f) i j = at0 (f (S.getD i [])) j := by
  unfold ent
  rw [List.getD_eq_getElem?_getD, List.getElem?_map, List.getD_eq_getElem?_getD, List.getElem?_eq_getElem h]
  rfl
theorem Hs.snoc {w p : Nat} {S : Mat} {L : List Nat} {r : Row} (h : Hs w S L) (hp : p < w) (hL : ∀ q ∈ L, q < p) (hr : r.length = w) (hz : ∀ j, j < p → at0 r j = 0) (hpos : 0 < at0 r p) : Hs w (S.map (lsd p r) ++ [r]) (L ++ [p]) := by
  have wl : ∀ i, i < S.length → (S.getD i []).length = r.length := fun i hi => by rw [h.wid.get hi, hr]
  have same : ∀ i j, i < S.length → j < p → ent (S.map (lsd p r)) i j = ent S i j := fun i j hi hj => by
    rw [ent_map hi, at0_lsd (wl i hi), hz j hj]
    simp [ent]
  have lk : ∀ {i q}, (L ++ [p])[i]? = some q → (i < S.length ∧ L[i]? = some q) ∨ (i = S.length ∧ q = p) := fun {i q} e => by
    rw [List.getElem?_append] at e
    split at e
    · exact .inl ⟨by rw [h.len]; assumption, e⟩
    · rename_i hi
      by_cases h0 : i = L.length
      · rw [h0] at e
        simp at e
        exact .inr ⟨by rw [h.len]; exact h0, e.symm⟩
      · rw [List.getElem?_eq_none (by simp; omega)] at e
        cases e
  have ml : (S.map (lsd p r)).length = S.length := List.length_map ..
  refine ⟨by simp [h.len], ?_, ?_, ?_, ?_, ?_, ?_⟩
  · intro x hx
    rcases List.mem_append.mp hx with q | q
    · obtain ⟨y, hy, rfl⟩ := List.mem_map.mp q
      rw [lsd_length]
      exact h.wid y hy
    · rw [List.mem_singleton.mp q]
      exact hr
  · intro i j a b hij ha hb
    rcases lk ha with ⟨h1, h2⟩ | ⟨h1, rfl⟩ <;> rcases lk hb with ⟨h3, h4⟩ | ⟨h3, rfl⟩
    · exact h.up i j a b hij h2 h4
    · exact hL a (List.mem_of_getElem? h2)
    · omega
    · omega
  · intro i q e
    rcases lk e with ⟨_, h2⟩ | ⟨_, rfl⟩
    · exact h.lt i q h2
    · exact hp
  · intro i q j e hj
    rw [ent_app, ml]
    rcases lk e with ⟨h1, h2⟩ | ⟨h1, rfl⟩
    · rw [if_pos h1, same i j h1 (Nat.lt_trans hj (hL q (List.mem_of_getElem? h2)))]
      exact h.zero i q j h2 hj
    · rw [if_neg (by omega), if_pos h1]
      exact hz j hj
  · intro i q e
    rw [ent_app, ml]
    rcases lk e with ⟨h1, h2⟩ | ⟨h1, rfl⟩
    · rw [if_pos h1, same i q h1 (hL q (List.mem_of_getElem? h2))]
      exact h.pos i q h2
    · rw [if_neg (by omega), if_pos h1]
      exact hpos
  · intro i k q hik e
    rw [ent_app, ent_app, ml]
    rcases lk e with ⟨h1, h2⟩ | ⟨h1, rfl⟩
    · rw [if_pos h1, if_pos (show i < S.length by omega), same i q (by omega) (hL q (List.mem_of_getElem? h2)), same k q h1 (hL q (List.mem_of_getElem? h2))]
      exact h.red i k q hik h2
    · rw [if_pos (show i < S.length by omega), if_neg (show ¬ k < S.length by omega), if_pos h1, ent_map (by omega)]
      exact lsd_rem (wl i (by omega)) hpos
theorem hs_nil {w : Nat} : Hs w [] [] := ⟨rfl, fun _ h => (by cases h), fun i j a b _ h => (by simp at h), fun i q h => (by simp at h), fun i q j h => (by simp at h), fun i q h => (by simp at h), fun i k q _ h => (by simp at h)⟩
/-- what stands behind n places -/
structure Sts (w n : Nat) (m : Mat) (s : Mat × Mat) (L : List Nat) : Prop where
  h : Hs w s.1 L
  l : ∀ q ∈ L, q < n
  wid : Wid w s.2
  z : ∀ i j, j < n → ent s.2 i j = 0
theorem Sts.step {w n : Nat} {m : Mat} {s : Mat × Mat} {L : List Nat} (h : Sts w n m s L) (hn : n < w) : ∃ L', Sts w (n + 1) m (stStep s n) L' := by
  have hz := pull_all (w := w) (p := n) (S := fun r => ∀ j, j < n → at0 r j = 0) h.wid (fun r hr j hj => by
    obtain ⟨i, _, e⟩ := mem_getD hr
    have := h.z i j hj
    unfold ent at this
    rw [e] at this
    exact this) (fun r o k h1 h2 h3 h4 j hj => by rw [at0_less (by omega), h3 j hj, h4 j hj]; simp) (fun r h1 h2 j hj => by rw [at0_neg, h2 j hj]; rfl)
  unfold stStep
  cases e : pull s.2 n with
  | mk o l =>
    rw [e] at hz
    have zl : ∀ i j, j < n → ent l i j = 0 := fun i j hj => by
      by_cases hi : i < l.length
      · exact hz.2 _ (getD_mem hi) j hj
      · exact ent_out (by omega)
    cases o with
    | none =>
      obtain ⟨h1, h2⟩ := pull_no h.wid e
      refine ⟨L, h.h, fun q hq => Nat.lt_succ_of_lt (h.l q hq), by rw [h1]; exact h.wid, fun i j hj => ?_⟩
      by_cases q : j = n
      · rw [q, h1]; exact h2 i
      · exact zl i j (by omega)
    | some r =>
      obtain ⟨h1, h2, h3, h4, h5⟩ := pull_some h.wid e
      refine ⟨L ++ [n], h.h.snoc hn h.l h1 (hz.1 r rfl) h4, fun q hq => ?_, h2, fun i j hj => ?_⟩
      · rcases List.mem_append.mp hq with q1 | q1
        · exact Nat.lt_succ_of_lt (h.l q q1)
        · rw [List.mem_singleton.mp q1]; omega
      · by_cases q : j = n
        · rw [q]; exact h5 i
        · exact zl i j (by omega)
theorem sts {w : Nat} {m : Mat} (hw : Wid w m) : ∀ n, n ≤ w → ∃ L, Sts w n m (stF m n) L
  | 0, _ => ⟨[], hs_nil, fun _ h => (by cases h), hw, fun i j h => by omega⟩
  | n + 1, h => by
    obtain ⟨L, q⟩ := sts hw n (by omega)
    rw [stF_succ]
    exact q.step (by omega)
theorem stairs_hs {w : Nat} {m : Mat} (hw : Wid w m) : ∃ L, Hs w (stairs m w) L := let ⟨L, q⟩ := sts hw w (Nat.le_refl w); ⟨L, q.h⟩
end G
end
section
set_option linter.all false
set_option maxRecDepth 10000
namespace G
/-! ### sizes of stairs -/
def lbit (b : Nat) : Nat → Nat
  | 0 => b
  | n + 1 => 4 * lbit b n + 3
def sbit (b : Nat) : Nat → Nat
  | 0 => 0
  | n + 1 => sbit b n + lbit b (n + 1) + 1
theorem lbit_s (b n : Nat) : lbit b (n + 1) = 4 * lbit b n + 3 := rfl
theorem sbit_s (b n : Nat) : sbit b (n + 1) = sbit b n + (4 * lbit b n + 3) + 1 := rfl
theorem lbit_le (b : Nat) : ∀ n, lbit b n + 1 ≤ (b + 1) * 4 ^ n
  | 0 => by simp [lbit]
  | n + 1 => by
    have ih := lbit_le b n
    rw [Nat.pow_succ, ← Nat.mul_assoc]
    unfold lbit
    omega
theorem sbit_le (b : Nat) : ∀ n, sbit b n ≤ 2 * (lbit b n + 1)
  | 0 => by simp [sbit]
  | n + 1 => by
    have ih := sbit_le b n
    unfold sbit lbit
    omega
theorem lbit_mono (b : Nat) {n k : Nat} (h : n ≤ k) : lbit b n ≤ lbit b k := by
  induction k with
  | zero =>
    have : n = 0 := by omega
    subst this
    exact Nat.le_refl _
  | succ k ih =>
    by_cases e : n = k + 1
    · subst e; exact Nat.le_refl _
    · have := ih (by omega)
      rw [lbit_s]
      omega
theorem sbit_mono (b : Nat) {n k : Nat} (h : n ≤ k) : sbit b n ≤ sbit b k := by
  induction k with
  | zero =>
    have : n = 0 := by omega
    subst this
    exact Nat.le_refl _
  | succ k ih =>
    by_cases e : n = k + 1
    · subst e; exact Nat.le_refl _
    · have := ih (by omega)
      rw [sbit_s]
      omega
theorem rb_less {a b : Nat} {p : Nat} {l r : Row} (h : r.length = l.length) (h1 : RB (2 ^ a) r) (h2 : RB (2 ^ b) l) (hq : ((at0 r p).fdiv (at0 l p)).natAbs ≤ 2 ^ a) : RB (2 ^ (a + b + 1)) (lsd p l r) := by
  intro j
  rw [at0_lsd h]
  refine Nat.le_trans (natAbs_sub_le _ _) ?_
  rw [Int.natAbs_mul, Nat.pow_succ, Nat.pow_add]
  have h3 := Nat.mul_le_mul hq (h2 j)
  have h4 := h1 j
  have h5 : 2 ^ a ≤ 2 ^ a * 2 ^ b := Nat.le_mul_of_pos_right _ (Nat.pow_pos (by decide))
  omega
theorem fdiv_abs (a b : Int) : (a.fdiv b).natAbs ≤ a.natAbs := by
  by_cases h : b = 0
  · rw [h, Int.fdiv_zero]
    exact Nat.zero_le _
  · have h1 := fdiv_abs_le (a := a) h
    have hb : 0 < b.natAbs := by omega
    by_cases hb1 : b.natAbs = 1
    · have e : b = 1 ∨ b = -1 := by omega
      rcases e with e | e
      · rw [e, Int.fdiv_one]
        exact Nat.le_refl _
      · rw [e]
        have := Int.neg_fdiv_neg (-a) 1
        rw [Int.neg_neg, Int.fdiv_one] at this
        rw [this]
        omega
    · by_cases ha : a = 0
      · rw [ha, Int.zero_fdiv]
        exact Nat.le_refl _
      · have h2 : a.natAbs / b.natAbs < a.natAbs := Nat.div_lt_self (by omega) (by omega)
        omega
theorem rb_lsd {a b : Nat} {p : Nat} {l r : Row} (h : r.length = l.length) (h1 : RB (2 ^ a) r) (h2 : RB (2 ^ b) l) : RB (2 ^ (a + b + 1)) (lsd p l r) :=
  rb_less h h1 h2 (Nat.le_trans (fdiv_abs _ _) (h1 p))
theorem RB.mono {a b : Nat} {r : Row} (h : RB (2 ^ a) r) (e : a ≤ b) : RB (2 ^ b) r := fun j => Nat.le_trans (h j) (Nat.pow_le_pow_right (by decide) e)
theorem Le.mono {a b : Nat} {r : Mat} (h : Le (2 ^ a) r) (e : a ≤ b) : Le (2 ^ b) r := fun i j => Nat.le_trans (h i j) (Nat.pow_le_pow_right (by decide) e)
/-- widths and sizes at every place -/
theorem stF_inv {w b : Nat} {m : Mat} (hw : Wid w m) (hb : Le (2 ^ b) m) : ∀ n, Wid w (stF m n).1 ∧ Wid w (stF m n).2 ∧ Le (2 ^ sbit b n) (stF m n).1 ∧ Le (2 ^ lbit b n) (stF m n).2 ∧ (stF m n).2.length ≤ m.length ∧ (stF m n).1.length ≤ n ∧ (stF m n).1.length + (stF m n).2.length ≤ m.length
  | 0 => ⟨fun _ h => (by cases h), hw, fun i j => by rw [ent_out (Nat.zero_le _)]; exact Nat.zero_le _, hb, Nat.le_refl _, Nat.le_refl _, by simp [stF_zero]⟩
  | n + 1 => by
    obtain ⟨h1, h2, h3, h4, h5, h6, h7⟩ := stF_inv hw hb n
    rw [stF_succ]
    unfold stStep
    obtain ⟨s1, s2⟩ := pull_size (p := n) h2 h4
    cases e : pull (stF m n).2 n with
    | mk o l =>
      rw [e] at s1 s2
      cases o with
      | none =>
        obtain ⟨a1, _⟩ := pull_no h2 e
        exact ⟨h1, by rw [a1]; exact h2, h3.mono (sbit_mono b (Nat.le_succ n)), by rw [a1]; exact h4.mono (lbit_mono b (Nat.le_succ n)), by rw [a1]; exact h5, by show (stF m n).1.length ≤ _; omega, by show (stF m n).1.length + l.length ≤ _; rw [a1]; exact h7⟩
      | some r =>
        obtain ⟨a1, a2, a3, _, _⟩ := pull_some h2 e
        refine ⟨?_, a2, ?_, s2, by show l.length ≤ _; omega, by show ((stF m n).1.map (lsd n r) ++ [r]).length ≤ _; simp; omega, by show ((stF m n).1.map (lsd n r) ++ [r]).length + l.length ≤ _; simp; omega⟩
        · intro x hx
          rcases List.mem_append.mp hx with q | q
          · obtain ⟨y, hy, rfl⟩ := List.mem_map.mp q
            rw [lsd_length]; exact h1 y hy
          · rw [List.mem_singleton.mp q]; exact a1
        · refine le_iff.mpr fun x hx => ?_
          rcases List.mem_append.mp hx with q | q
          · obtain ⟨y, hy, rfl⟩ := List.mem_map.mp q
            exact (rb_lsd (by rw [h1 y hy, a1]) (le_iff.mp h3 y hy) (s1 r rfl)).mono (by rw [sbit_s]; omega)
          · rw [List.mem_singleton.mp q]
            exact (s1 r rfl).mono (by rw [sbit_s]; omega)
/-! ### the first place that is not 0; what stairs leave of a row -/
def leadAt (r : Row) (q : Nat) : Prop := q < r.length ∧ at0 r q ≠ 0 ∧ ∀ j, j < q → at0 r j = 0
def leadPl (r : Row) : Nat := ((List.range r.length).find? fun i => at0 r i != 0).getD 0
theorem find_range (n : Nat) (f : Nat → Bool) (q : Nat) (h1 : q < n) (h2 : f q = true) (h3 : ∀ j, j < q → f j = false) : (List.range n).find? f = some q := by
  induction n with
  | zero => omega
  | succ n ih =>
    rw [List.range_succ, List.find?_append]
    by_cases e : q < n
    · rw [ih e]; rfl
    · have : q = n := by omega
      subst this
      have h4 : (List.range q).find? f = none := by
        rw [List.find?_eq_none]
        intro x hx
        rw [h3 x (List.mem_range.mp hx)]
        exact Bool.false_ne_true
      rw [h4]
      simp [h2]
theorem leadPl_eq {r : Row} {q : Nat} (h : leadAt r q) : leadPl r = q := by
  unfold leadPl
  rw [find_range r.length _ q h.1 (by simpa using h.2.1) (fun j hj => by simp [h.2.2 j hj])]
  rfl
def redStep (left s : Row) : Row := lsd (leadPl s) s left
def redF (S : Mat) (r : Row) (n : Nat) : Row := (S.take n).foldl redStep r
def red (S : Mat) (r : Row) : Row := S.foldl redStep r
theorem redF_zero (S : Mat) (r : Row) : redF S r 0 = r := rfl
theorem redF_succ {S : Mat} {r : Row} {n : Nat} (h : n < S.length) : redF S r (n + 1) = redStep (redF S r n) (S.getD n []) := by
  unfold redF
  rw [List.take_succ, List.getElem?_eq_getElem h, List.foldl_append, List.getD_eq_getElem?_getD, List.getElem?_eq_getElem h]
  rfl
theorem redF_all (S : Mat) (r : Row) : redF S r S.length = red S r := by
  unfold redF red
  rw [List.take_length]
theorem redF_inv {w a b : Nat} {S : Mat} {r : Row} (hS : Wid w S) (hr : r.length = w) (hb : Le (2 ^ b) S) (ha : RB (2 ^ a) r) : ∀ n, n ≤ S.length → (redF S r n).length = w ∧ RB (2 ^ (a + n * (b + 1))) (redF S r n)
  | 0, _ => ⟨hr, by rw [Nat.zero_mul]; exact ha⟩
  | n + 1, h => by
    obtain ⟨h1, h2⟩ := redF_inv hS hr hb ha n (by omega)
    rw [redF_succ (by omega)]
    have h3 := hS.get (i := n) (by omega)
    refine ⟨by unfold redStep; rw [lsd_length, h1], ?_⟩
    have := rb_lsd (p := leadPl (S.getD n [])) (by rw [h1, h3]) h2 (le_iff.mp hb _ (getD_mem (by omega)))
    refine this.mono ?_
    rw [Nat.add_mul, Nat.one_mul]
    omega
theorem Hs.lead {w : Nat} {S : Mat} {L : List Nat} (h : Hs w S L) {i : Nat} (hi : i < S.length) : ∃ q, q < w ∧ leadAt (S.getD i []) q ∧ L[i]? = some q := by
  have hl : i < L.length := by rw [← h.len]; exact hi
  have e : L[i]? = some L[i] := List.getElem?_eq_getElem hl
  have h1 := h.lt i _ e
  have h2 := h.pos i _ e
  have h3 : ∀ j, j < L[i] → ent S i j = 0 := fun j hj => h.zero i _ j e hj
  exact ⟨L[i], h1, ⟨by rw [h.wid.get hi]; exact h1, by unfold ent at h2; omega, h3⟩, e⟩
end G
end
section
set_option linter.all false
set_option maxRecDepth 10000
namespace G
/-! ### the first w numbers alone -/
theorem at0_take {r : Row} {w i : Nat} : at0 (r.take w) i = if i < w then at0 r i else 0 := by
  unfold at0
  rw [List.getD_eq_getElem?_getD, List.getElem?_take]
  split
  · rw [List.getD_eq_getElem?_getD]
  · rfl
theorem less_take {r o : Row} {n : Int} {w : Nat} (h : r.length = o.length) : (less r n o).take w = less (r.take w) n (o.take w) := by
  apply row_ext
  · rw [List.length_take, less_length, less_length, List.length_take]
  · intro i
    rw [at0_take, at0_less h, at0_less (by rw [List.length_take, List.length_take, h]), at0_take, at0_take]
    split <;> simp
theorem lsd_take {l r : Row} {p w : Nat} (h : r.length = l.length) (hp : p < w) : (lsd p l r).take w = lsd p (l.take w) (r.take w) := by
  unfold lsd
  rw [less_take h, at0_take, at0_take, if_pos hp, if_pos hp]
theorem norm_take {l : Row} {p w : Nat} (hp : p < w) : (norm l p).take w = norm (l.take w) p := by
  unfold norm
  rw [at0_take, if_pos hp]
  split
  · rfl
  · rw [List.map_take]
abbrev tk (w : Nat) (m : Mat) : Mat := m.map fun r => r.take w
theorem getD_tk {m : Mat} {w i : Nat} : (tk w m).getD i [] = (m.getD i []).take w := by
  rw [List.getD_eq_getElem?_getD, List.getD_eq_getElem?_getD, List.getElem?_map]
  cases m[i]? <;> simp
theorem ent_tk {m : Mat} {w i p : Nat} (hp : p < w) : ent (tk w m) i p = ent m i p := by
  unfold ent
  rw [getD_tk, at0_take, if_pos hp]
theorem lb_tk {m : Mat} {w p : Nat} (hp : p < w) : lb (tk w m) p = lb m p := by
  unfold lb lbF
  rw [List.length_map]
  have e : lbStep (tk w m) p = lbStep m p := by
    funext b i
    unfold lbStep
    simp only [ent_tk hp]
  rw [e]
theorem rnd_tk {m : Mat} {w v p b : Nat} (hw : Wid v m) (hp : p < w) (hb : b < m.length) : rnd (tk w m) p b = tk w (rnd m p b) := by
  unfold rnd
  show _ = ((List.range m.length).map (rndR m p b)).map fun r => r.take w
  rw [List.length_map, List.map_map]
  apply List.map_congr_left
  intro i hi
  have hi := List.mem_range.mp hi
  show rndR (tk w m) p b i = (rndR m p b i).take w
  unfold rndR
  rw [ent_tk hp]
  split
  · rw [getD_tk, getD_tk, lsd_take (by rw [hw.get hi, hw.get hb]) hp]
  · rw [getD_tk]
theorem clean_tk {m : Mat} {w p b : Nat} (hp : p < w) : Clean (tk w m) p b ↔ Clean m p b := by
  unfold Clean
  rw [List.length_map]
  simp only [ent_tk hp]
theorem wid_tk {m : Mat} {v w : Nat} (hw : Wid v m) (h : w ≤ v) : Wid w (tk w m) := by
  intro r hr
  obtain ⟨x, hx, rfl⟩ := List.mem_map.mp hr
  rw [List.length_take, hw x hx]
  omega
theorem map_erase {α β : Type} (f : α → β) : ∀ (m : List α) (b : Nat), (m.map f).eraseIdx b = (m.eraseIdx b).map f
  | [], _ => rfl
  | _ :: _, 0 => rfl
  | x :: m, b + 1 => congrArg (f x :: ·) (map_erase f m b)
theorem pull_tk {w v p : Nat} (hp : p < w) (hv : w ≤ v) : ∀ (n : Nat) (m : Mat), meas m p < n → Wid v m → pull (tk w m) p = ((pull m p).1.map fun r => r.take w, tk w (pull m p).2)
  | 0, m, h, _ => by omega
  | n + 1, m, h, hw => by
    cases e : lb m p with
    | none => rw [pull_none e, pull_none (by rw [lb_tk hp]; exact e)]; rfl
    | some b =>
      have e' : lb (tk w m) p = some b := by rw [lb_tk hp]; exact e
      have hb := (lb_some e).1
      have er := rnd_tk hw hp hb
      by_cases hc : Clean (rnd m p b) p b
      · rw [pull_clean e hc, pull_clean e' (by rw [er]; exact (clean_tk hp).mpr hc), er, getD_tk]
        show (some (norm ((m.getD b []).take w) p), (tk w (rnd m p b)).eraseIdx b) = (some ((norm (m.getD b []) p).take w), tk w ((rnd m p b).eraseIdx b))
        rw [norm_take hp, map_erase]
      · rw [pull_step hw e hc, pull_step (wid_tk hw hv) e' (by rw [er]; exact fun z => hc ((clean_tk hp).mp z)), er]
        exact pull_tk hp hv n _ (by have := meas_rnd hw e hc; omega) (rnd_wid hw)
theorem le_sum_mem : ∀ {l : List Nat} {x : Nat}, x ∈ l → x ≤ l.sum
  | y :: l, x, h => by
    rw [List.sum_cons]
    rcases List.mem_cons.mp h with e | e
    · omega
    · have := le_sum_mem e
      omega
theorem stF_tk {w v : Nat} {m : Mat} (hw : Wid v m) (hv : w ≤ v) : ∀ n, n ≤ w → stF (tk w m) n = (tk w (stF m n).1, tk w (stF m n).2)
  | 0, _ => rfl
  | n + 1, h => by
    obtain ⟨h1, h2, _⟩ := stF_inv hw (b := (m.map fun r => (r.map Int.natAbs).sum).sum) (le_iff.mpr fun r hr j => by
      have : (at0 r j).natAbs ≤ (r.map Int.natAbs).sum := by
        by_cases hj : j < r.length
        · have e := at0_get hj
          have hm : at0 r j ∈ r := List.mem_of_getElem? e
          exact le_sum_mem (List.mem_map.mpr ⟨_, hm, rfl⟩)
        · rw [at0_out (by omega)]; exact Nat.zero_le _
      have h3 : (r.map Int.natAbs).sum ≤ (m.map fun r => (r.map Int.natAbs).sum).sum := le_sum_mem (List.mem_map.mpr ⟨r, hr, rfl⟩)
      have h4 : (m.map fun r => (r.map Int.natAbs).sum).sum < 2 ^ (m.map fun r => (r.map Int.natAbs).sum).sum := Nat.lt_two_pow_self
      omega) n
    rw [stF_succ, stF_succ, stF_tk hw hv n (by omega)]
    unfold stStep
    rw [pull_tk (by omega) hv _ _ (Nat.lt_succ_self _) h2]
    cases e : pull (stF m n).2 n with
    | mk o l =>
      cases o with
      | none => rfl
      | some r =>
        obtain ⟨a1, _⟩ := pull_some h2 e
        show ((tk w (stF m n).1).map (lsd n (r.take w)) ++ [r.take w], tk w l) = (tk w ((stF m n).1.map (lsd n r) ++ [r]), tk w l)
        congr 1
        show _ = List.map _ (_ ++ _)
        rw [List.map_append, List.map_map, List.map_map]
        congr 1
        apply List.map_congr_left
        intro x hx
        exact (lsd_take (by rw [h1 x hx, a1]) (by omega)).symm
theorem leadAt_take {r : Row} {q w : Nat} (h : leadAt r q) (hq : q < w) : leadAt (r.take w) q := by
  obtain ⟨h1, h2, h3⟩ := h
  refine ⟨by rw [List.length_take]; omega, by rw [at0_take, if_pos hq]; exact h2, fun j hj => ?_⟩
  rw [at0_take, if_pos (by omega)]
  exact h3 j hj
theorem red_tk {w v : Nat} {S : Mat} (hS : Wid v S) (hl : ∀ i, i < S.length → ∃ q, q < w ∧ leadAt (S.getD i []) q) (r : Row) (hr : r.length = v) : ∀ n, n ≤ S.length → (redF S r n).length = v ∧ (redF S r n).take w = redF (tk w S) (r.take w) n
  | 0, _ => ⟨hr, rfl⟩
  | n + 1, h => by
    obtain ⟨h1, h2⟩ := red_tk hS hl r hr n (by omega)
    obtain ⟨q, q1, q2⟩ := hl n (by omega)
    rw [redF_succ (by omega), redF_succ (by rw [List.length_map]; omega), getD_tk, ← h2]
    unfold redStep
    rw [leadPl_eq q2, leadPl_eq (leadAt_take q2 q1)]
    have := hS.get (i := n) (by omega)
    exact ⟨by rw [lsd_length]; exact h1, lsd_take (by omega) q1⟩
/-! ### sums -/
def sumTo : Nat → (Nat → Int) → Int
  | 0, _ => 0
  | n + 1, f => sumTo n f + f n
theorem sumTo_congr {n : Nat} {f g : Nat → Int} (h : ∀ i, i < n → f i = g i) : sumTo n f = sumTo n g := by
  induction n with
  | zero => rfl
  | succ n ih => unfold sumTo; rw [ih fun i hi => h i (by omega), h n (by omega)]
theorem sumTo_lin {n : Nat} {f g : Nat → Int} {k : Int} : sumTo n (fun i => f i - k * g i) = sumTo n f - k * sumTo n g := by
  induction n with
  | zero => simp [sumTo]
  | succ n ih =>
    show sumTo n (fun i => f i - k * g i) + (f n - k * g n) = sumTo n f + f n - k * (sumTo n g + g n)
    rw [ih, Int.mul_add]
    omega
theorem sumTo_zero {n : Nat} : sumTo n (fun _ => 0) = 0 := by
  induction n with
  | zero => rfl
  | succ n ih => unfold sumTo; rw [ih]; rfl
theorem sumTo_one {n p : Nat} {f : Nat → Int} (h : p < n) : sumTo n (fun i => (if i = p then 1 else 0) * f i) = f p := by
  induction n with
  | zero => omega
  | succ n ih =>
    show sumTo n (fun i => (if i = p then 1 else 0) * f i) + (if n = p then 1 else 0) * f n = f p
    by_cases e : p = n
    · subst e
      rw [if_pos rfl, Int.one_mul]
      have : sumTo p (fun i => (if i = p then 1 else 0) * f i) = sumTo p (fun _ => 0) := sumTo_congr fun i hi => by rw [if_neg (by omega), Int.zero_mul]
      rw [this, sumTo_zero, Int.zero_add]
    · rw [ih (by omega), if_neg (fun z : n = p => e z.symm), Int.zero_mul, Int.add_zero]
/-- amounts times rows -/
def mixM (a : Row) (g : Mat) (w : Nat) : Row := (List.range w).map fun j => sumTo g.length fun i => at0 a i * ent g i j
def unitR (n p : Nat) : Row := (List.range n).map fun i => if i = p then 1 else 0
def numb (m : Mat) : Mat := (List.range m.length).map fun i => m.getD i [] ++ unitR m.length i
theorem at0_app {r o : Row} {i : Nat} : at0 (r ++ o) i = if i < r.length then at0 r i else at0 o (i - r.length) := by
  unfold at0
  rw [List.getD_eq_getElem?_getD, List.getElem?_append]
  split <;> rw [List.getD_eq_getElem?_getD]
theorem numb_wid {w : Nat} {m : Mat} (hw : Wid w m) : Wid (w + m.length) (numb m) := by
  intro r hr
  obtain ⟨i, hi, rfl⟩ := List.mem_map.mp hr
  rw [List.length_append, hw.get (List.mem_range.mp hi)]
  simp [unitR]
theorem numb_length (m : Mat) : (numb m).length = m.length := by simp [numb]
theorem numb_tk {w : Nat} {m : Mat} (hw : Wid w m) : tk w (numb m) = m := by
  show ((List.range m.length).map fun i => m.getD i [] ++ unitR m.length i).map (fun r => r.take w) = m
  rw [List.map_map]
  conv => rhs; rw [← list_eq_range m]
  apply List.map_congr_left
  intro i hi
  have := hw.get (List.mem_range.mp hi)
  show (m.getD i [] ++ unitR m.length i).take w = m.getD i []
  rw [List.take_append_of_le_length (by omega), List.take_of_length_le (by omega)]
theorem numb_le {b : Nat} {m : Mat} (h : Le (2 ^ b) m) : Le (2 ^ b) (numb m) := by
  refine le_iff.mpr fun r hr j => ?_
  obtain ⟨i, hi, rfl⟩ := List.mem_map.mp hr
  have h1 : 1 ≤ 2 ^ b := Nat.pow_pos (by decide)
  rw [at0_app]
  split
  · exact h i j
  · unfold unitR
    rw [at0_map_range]
    split
    · split
      · exact h1
      · exact Nat.zero_le _
    · exact Nat.zero_le _
/-- the first numbers are the sum that the further ones tell, but for base -/
def Tg (g : Mat) (w : Nat) (base r : Row) : Prop := ∀ j, j < w → at0 r j - at0 base j = sumTo g.length fun i => at0 r (w + i) * ent g i j
theorem Tg.less {g : Mat} {w : Nat} {base r o : Row} {k : Int} (h : r.length = o.length) (h1 : Tg g w base r) (h2 : Tg g w [] o) : Tg g w base (less r k o) := fun j hj => by
  have e1 := h1 j hj
  have e2 := h2 j hj
  have e3 : at0 ([] : Row) j = 0 := at0_out (Nat.zero_le _)
  rw [e3, Int.sub_zero] at e2
  rw [at0_less h]
  have e4 : sumTo g.length (fun i => at0 (G.less r k o) (w + i) * ent g i j) = sumTo g.length (fun i => at0 r (w + i) * ent g i j - k * (at0 o (w + i) * ent g i j)) := sumTo_congr fun i _ => by
    rw [at0_less h, Int.sub_mul, Int.mul_assoc]
  rw [e4, sumTo_lin, ← e1, ← e2]
  omega
theorem Tg.neg {g : Mat} {w : Nat} {r : Row} (h1 : Tg g w [] r) : Tg g w [] (r.map fun x => -x) := fun j hj => by
  have e1 := h1 j hj
  have e3 : at0 ([] : Row) j = 0 := at0_out (Nat.zero_le _)
  rw [e3, Int.sub_zero] at e1 ⊢
  rw [at0_neg, e1]
  have e4 : sumTo g.length (fun i => at0 (r.map fun x => -x) (w + i) * ent g i j) = sumTo g.length (fun i => 0 - 1 * (at0 r (w + i) * ent g i j)) := sumTo_congr fun i _ => by
    rw [at0_neg, Int.neg_mul, Int.one_mul, Int.zero_sub]
  rw [e4, sumTo_lin, sumTo_zero]
  omega
theorem numb_tg {w : Nat} {m : Mat} (hw : Wid w m) : ∀ r ∈ numb m, Tg m w [] r := by
  intro r hr j hj
  obtain ⟨i, hi, rfl⟩ := List.mem_map.mp hr
  have hi := List.mem_range.mp hi
  have hl := hw.get hi
  have e3 : at0 ([] : Row) j = 0 := at0_out (Nat.zero_le _)
  rw [e3, Int.sub_zero, at0_app, if_pos (by omega)]
  have e4 : sumTo m.length (fun k => at0 (m.getD i [] ++ unitR m.length i) (w + k) * ent m k j) = sumTo m.length (fun k => (if k = i then 1 else 0) * ent m k j) := sumTo_congr fun k hk => by
    rw [at0_app, if_neg (by omega)]
    unfold unitR
    rw [at0_map_range, if_pos (by omega)]
    have : w + k - (m.getD i []).length = k := by omega
    rw [this]
  rw [e4, sumTo_one hi]
  rfl
theorem stF_all {v : Nat} {m : Mat} {T : Row → Prop} (hw : Wid v m) (hT : ∀ r ∈ m, T r) (hl : ∀ r o k, r.length = v → o.length = v → T r → T o → T (less r k o)) (hn : ∀ r, r.length = v → T r → T (r.map fun x => -x)) (n : Nat) :
    Wid v (stF m n).1 ∧ Wid v (stF m n).2 ∧ (∀ r ∈ (stF m n).1, T r) ∧ ∀ r ∈ (stF m n).2, T r := by
  induction n with
  | zero => exact ⟨fun _ h => (by cases h), hw, fun _ h => (by cases h), hT⟩
  | succ n ih =>
    obtain ⟨h1, h2, h3, h4⟩ := ih
    rw [stF_succ]
    unfold stStep
    have ha := pull_all (p := n) h2 h4 hl hn
    cases e : pull (stF m n).2 n with
    | mk o l =>
      rw [e] at ha
      cases o with
      | none =>
        obtain ⟨a1, _⟩ := pull_no h2 e
        exact ⟨h1, by rw [a1]; exact h2, h3, ha.2⟩
      | some r =>
        obtain ⟨a1, a2, _⟩ := pull_some h2 e
        refine ⟨fun x hx => ?_, a2, fun x hx => ?_, ha.2⟩
        · rcases List.mem_append.mp hx with q | q
          · obtain ⟨y, hy, rfl⟩ := List.mem_map.mp q
            rw [lsd_length]; exact h1 y hy
          · rw [List.mem_singleton.mp q]; exact a1
        · rcases List.mem_append.mp hx with q | q
          · obtain ⟨y, hy, rfl⟩ := List.mem_map.mp q
            exact hl _ _ _ (h1 y hy) a1 (h3 y hy) (ha.1 r rfl)
          · rw [List.mem_singleton.mp q]; exact ha.1 r rfl
theorem redF_tg {g S : Mat} {v w : Nat} {base r : Row} (hS : Wid v S) (hT : ∀ x ∈ S, Tg g w [] x) (hr : r.length = v) (h : Tg g w base r) : ∀ n, n ≤ S.length → (redF S r n).length = v ∧ Tg g w base (redF S r n)
  | 0, _ => ⟨hr, h⟩
  | n + 1, hn => by
    obtain ⟨h1, h2⟩ := redF_tg hS hT hr h n (by omega)
    have := hS.get (i := n) (by omega)
    rw [redF_succ (by omega)]
    exact ⟨by unfold redStep; rw [lsd_length]; exact h1, h2.less (by omega) (hT _ (getD_mem (by omega)))⟩
/-- what numbered stairs leave of a row -/
def lft (g : Mat) (w : Nat) (r : Row) : Row := red (stairs (numb g) w) (r ++ List.replicate g.length 0)
def isz (r : Row) : Bool := r.all (· == 0)
theorem isz_iff {r : Row} : isz r = true ↔ ∀ i, at0 r i = 0 := by
  unfold isz
  rw [List.all_eq_true]
  constructor
  · intro h i
    by_cases hi : i < r.length
    · simpa using h _ (List.mem_of_getElem? (at0_get hi))
    · exact at0_out (by omega)
  · intro h x hx
    obtain ⟨i, hi, rfl⟩ := List.getElem_of_mem hx
    have := h i
    rw [at0_some (List.getElem?_eq_getElem hi)] at this
    simpa using this
theorem numb_leads {w : Nat} {g : Mat} (hw : Wid w g) : Wid (w + g.length) (stairs (numb g) w) ∧ ∀ i, i < (stairs (numb g) w).length → ∃ q, q < w ∧ leadAt ((stairs (numb g) w).getD i []) q := by
  obtain ⟨L, h⟩ := sts (numb_wid hw) w (by omega)
  refine ⟨h.h.wid, fun i hi => ?_⟩
  obtain ⟨q, _, h2, h3⟩ := h.h.lead hi
  exact ⟨q, h.l q (List.mem_of_getElem? h3), h2⟩
theorem lft_length {w : Nat} {g : Mat} {r : Row} (hw : Wid w g) (hr : r.length = w) : (lft g w r).length = w + g.length := by
  obtain ⟨h1, h2⟩ := numb_leads hw
  have := (red_tk (w := w) h1 h2 (r ++ List.replicate g.length 0) (by simp [hr]) _ (Nat.le_refl _)).1
  rw [redF_all] at this
  exact this
theorem lft_take {w : Nat} {g : Mat} {r : Row} (hw : Wid w g) (hr : r.length = w) : (lft g w r).take w = red (stairs g w) r := by
  obtain ⟨h1, h2⟩ := numb_leads hw
  have := (red_tk (w := w) h1 h2 (r ++ List.replicate g.length 0) (by simp [hr]) _ (Nat.le_refl _)).2
  rw [redF_all] at this
  unfold lft
  rw [this]
  have e1 : (r ++ List.replicate g.length 0).take w = r := by rw [List.take_append_of_le_length (by omega), List.take_of_length_le (by omega)]
  have e2 : tk w (stairs (numb g) w) = stairs g w := by
    have := congrArg Prod.fst (stF_tk (numb_wid hw) (show w ≤ w + g.length by omega) w (Nat.le_refl w))
    rw [numb_tk hw] at this
    exact this.symm
  rw [e1, e2, ← redF_all (stairs g w) r, ← e2, List.length_map]
/-- the amounts that are told -/
def parts (g : Mat) (w : Nat) (r : Row) : Row := ((lft g w r).drop w).map fun x => -1 * x
theorem parts_length {w : Nat} {g : Mat} {r : Row} (hw : Wid w g) (hr : r.length = w) : (parts g w r).length = g.length := by
  unfold parts
  rw [List.length_map, List.length_drop, lft_length hw hr]
  omega
theorem parts_mix {w : Nat} {g : Mat} {r : Row} (hw : Wid w g) (hr : r.length = w) (hz : isz (red (stairs g w) r) = true) : mixM (parts g w r) g w = r := by
  obtain ⟨h1, h2⟩ := numb_leads hw
  have hT := (stF_all (T := Tg g w []) (numb_wid hw) (numb_tg hw) (fun r o k a b c d => c.less (by omega) d) (fun r _ h => h.neg) w).2.2.1
  have ht : Tg g w r (r ++ List.replicate g.length 0) := fun j hj => by
    rw [at0_app, if_pos (by omega), Int.sub_self]
    have : sumTo g.length (fun i => at0 (r ++ List.replicate g.length 0) (w + i) * ent g i j) = sumTo g.length (fun _ => 0) := sumTo_congr fun i _ => by
      rw [at0_app, if_neg (by omega)]
      have : at0 (List.replicate g.length (0 : Int)) (w + i - r.length) = 0 := by
        unfold at0
        rw [List.getD_eq_getElem?_getD, List.getElem?_replicate]
        split <;> rfl
      rw [this, Int.zero_mul]
    rw [this, sumTo_zero]
  have h3 := (redF_tg h1 hT (by simp [hr]) ht _ (Nat.le_refl _)).2
  rw [redF_all] at h3
  have h4 := isz_iff.mp hz
  apply row_ext
  · simp [mixM, hr]
  · intro j
    unfold mixM
    rw [at0_map_range]
    split
    · rename_i hj
      have e1 := h3 j hj
      have e2 := h4 j
      rw [← lft_take hw hr, at0_take, if_pos hj] at e2
      have e3 : sumTo g.length (fun i => at0 (parts g w r) i * ent g i j) = sumTo g.length (fun i => 0 - 1 * (at0 (lft g w r) (w + i) * ent g i j)) := sumTo_congr fun i hi => by
        have : at0 (parts g w r) i = - at0 (lft g w r) (w + i) := by
          unfold parts at0
          rw [List.getD_eq_getElem?_getD, List.getElem?_map, List.getElem?_drop, List.getD_eq_getElem?_getD]
          cases (lft g w r)[w + i]? <;> simp
        rw [this, Int.neg_mul, Int.one_mul, Int.zero_sub]
      rw [e3, sumTo_lin, sumTo_zero]
      have e4 : at0 (red (stairs (numb g) w) (r ++ List.replicate g.length 0)) j = 0 := e2
      rw [e4] at e1
      show 0 - 1 * sumTo g.length (fun i => at0 (red (stairs (numb g) w) (r ++ List.replicate g.length 0)) (w + i) * ent g i j) = _
      omega
    · exact (at0_out (by omega)).symm
end G
end
section
set_option linter.all false
set_option maxRecDepth 10000
namespace G
/-! ### spans -/
def zr (w : Nat) : Row := List.replicate w 0
theorem at0_zr {w i : Nat} : at0 (zr w) i = 0 := by
  unfold at0 zr
  rw [List.getD_eq_getElem?_getD, List.getElem?_replicate]
  split <;> rfl
theorem zr_length {w : Nat} : (zr w).length = w := List.length_replicate
inductive Spn (w : Nat) (m : Mat) : Row → Prop where
  | zero : Spn w m (zr w)
  | step {v r : Row} (k : Int) : Spn w m v → r ∈ m → Spn w m (less v k r)
theorem Spn.len {w : Nat} {m : Mat} {v : Row} (h : Spn w m v) : v.length = w := by
  induction h with
  | zero => exact zr_length
  | step k _ _ ih => rw [less_length, ih]
theorem Spn.less {w : Nat} {m : Mat} {v u : Row} (hw : Wid w m) (hv : Spn w m v) (hu : Spn w m u) (k : Int) : Spn w m (less v k u) := by
  induction hu with
  | zero =>
    have e : G.less v k (zr w) = v := row_ext (less_length _ _ _) fun i => by rw [at0_less (by rw [zr_length, hv.len]), at0_zr]; simp
    rw [e]
    exact hv
  | @step u' r j h1 h2 ih =>
    have hr := hw r h2
    have hl := hv.len
    have hl' := h1.len
    have e : G.less v k (G.less u' j r) = G.less (G.less v k u') (-(k * j)) r := row_ext (by simp [less_length]) fun i => by
      rw [at0_less (by rw [less_length]; omega), at0_less (by omega), at0_less (by rw [less_length]; omega), at0_less (by omega), Int.mul_sub, Int.neg_mul, Int.mul_assoc]
      omega
    rw [e]
    exact ih.step _ h2
theorem Spn.mem {w : Nat} {m : Mat} {r : Row} (hw : Wid w m) (h : r ∈ m) : Spn w m r := by
  have e : G.less (zr w) (-1) r = r := row_ext (by rw [less_length, zr_length, hw r h]) fun i => by
    rw [at0_less (by rw [zr_length, hw r h]), at0_zr]
    omega
  rw [← e]
  exact Spn.zero.step _ h
def Sub (w : Nat) (A B : Mat) : Prop := ∀ r ∈ A, Spn w B r
theorem Spn.sub {w : Nat} {A B : Mat} {v : Row} (hB : Wid w B) (h : Sub w A B) (hv : Spn w A v) : Spn w B v := by
  induction hv with
  | zero => exact .zero
  | step k h1 h2 ih => exact ih.less hB (h _ h2) k
theorem Sub.trans {w : Nat} {A B C : Mat} (hC : Wid w C) (h1 : Sub w A B) (h2 : Sub w B C) : Sub w A C := fun r hr => (h1 r hr).sub hC h2
theorem Sub.of {w : Nat} {A B : Mat} (hB : Wid w B) (h : ∀ r ∈ A, r ∈ B) : Sub w A B := fun r hr => .mem hB (h r hr)
theorem Spn.neg {w : Nat} {m : Mat} {v : Row} (hw : Wid w m) (hv : Spn w m v) : Spn w m (v.map fun x => -x) := by
  have e : G.less (zr w) 1 v = v.map fun x => -x := row_ext (by rw [less_length, zr_length, List.length_map, hv.len]) fun i => by
    rw [at0_less (by rw [zr_length, hv.len]), at0_zr, at0_neg]
    omega
  rw [← e]
  exact Spn.zero.less hw hv 1
/-- what is so of zero and of the rows and stays with sums -/
theorem Spn.all {w : Nat} {m : Mat} {T : Row → Prop} {v : Row} (hv : Spn w m v) (hw : Wid w m) (h0 : T (zr w)) (hl : ∀ v r k, v.length = w → r ∈ m → T v → T (G.less v k r)) : T v := by
  induction hv with
  | zero => exact h0
  | step k h1 h2 ih => exact hl _ _ _ h1.len h2 ih
/-! ### stairs of one span are one -/
theorem Hs.tail {w q : Nat} {s : Row} {T : Mat} {L : List Nat} (h : Hs w (s :: T) (q :: L)) : Hs w T L where
  len := by have := h.len; simpa using this
  wid := fun r hr => h.wid r (.tail _ hr)
  up := fun i j a b hij h1 h2 => h.up (i + 1) (j + 1) a b (by omega) h1 h2
  lt := fun i q h1 => h.lt (i + 1) q h1
  zero := fun i q j h1 h2 => h.zero (i + 1) q j h1 h2
  pos := fun i q h1 => h.pos (i + 1) q h1
  red := fun i k q hik h1 => h.red (i + 1) (k + 1) q (by omega) h1
theorem Hs.above {w q : Nat} {s : Row} {T : Mat} {L : List Nat} (h : Hs w (s :: T) (q :: L)) : ∀ p ∈ L, q < p := fun p hp => by
  obtain ⟨i, hi, rfl⟩ := List.getElem_of_mem hp
  exact h.up 0 (i + 1) q L[i] (by omega) rfl (by simp)
/-- rows whose leads are all behind q show 0 till there -/
theorem span_zero {w q : Nat} {T : Mat} {L : List Nat} (h : Hs w T L) (hL : ∀ p ∈ L, q ≤ p) {v : Row} (hv : Spn w T v) : ∀ j, j < q → at0 v j = 0 := by
  refine hv.all (T := fun v => ∀ j, j < q → at0 v j = 0) h.wid (fun j _ => at0_zr) fun v r k hl hr ih j hj => ?_
  rw [at0_less (by rw [hl, h.wid r hr]), ih j hj]
  obtain ⟨i, hi, rfl⟩ := mem_getD hr
  have hi2 : i < L.length := by rw [← h.len]; exact hi
  have e : L[i]? = some L[i] := List.getElem?_eq_getElem hi2
  have := h.zero i L[i] j e (Nat.lt_of_lt_of_le hj (hL _ (List.getElem_mem hi2)))
  unfold ent at this
  rw [this]
  simp
theorem span_dec {w : Nat} {s : Row} {T : Mat} (hw : Wid w (s :: T)) {v : Row} (hv : Spn w (s :: T) v) : ∃ c, Spn w T (less v c s) := by
  have hs := hw s (.head _)
  induction hv with
  | zero =>
    refine ⟨0, ?_⟩
    rw [less_zero (by rw [zr_length, hs])]
    exact .zero
  | @step v r k h1 h2 ih =>
    obtain ⟨c, hc⟩ := ih
    have hl := h1.len
    rcases List.mem_cons.mp h2 with e | e
    · subst e
      refine ⟨c - k, ?_⟩
      have e : less (less v k r) (c - k) r = less v c r := row_ext (by simp [less_length]) fun i => by
        rw [at0_less (by rw [less_length]; omega), at0_less (by omega), at0_less (by omega), Int.sub_mul]
        omega
      rw [e]
      exact hc
    · refine ⟨c, ?_⟩
      have hr := hw r (.tail _ e)
      have e2 : less (less v k r) c s = less (less v c s) k r := row_ext (by simp [less_length]) fun i => by
        rw [at0_less (by rw [less_length]; omega), at0_less (by omega), at0_less (by rw [less_length]; omega), at0_less (by omega)]
        omega
      rw [e2]
      exact hc.step _ e
theorem span_cons {w : Nat} {s : Row} {T : Mat} {v : Row} (hv : Spn w T v) : Spn w (s :: T) v := by
  induction hv with
  | zero => exact .zero
  | step k _ h2 ih => exact ih.step k (.tail _ h2)
theorem span_small {w : Nat} : ∀ {T : Mat} {L : List Nat} {v : Row}, Hs w T L → Spn w T v → (∀ (i q : Nat), L[i]? = some q → (at0 v q).natAbs < (ent T i q).natAbs) → ∀ i, at0 v i = 0
  | [], L, v, h, hv, _ => fun i => by
    refine hv.all (T := fun v => at0 v i = 0) h.wid at0_zr fun v r k hl hr ih => ?_
    cases hr
  | t :: T, [], v, h, _, _ => by have := h.len; simp at this
  | t :: T, q :: L, v, h, hv, hs => by
    obtain ⟨c, hc⟩ := span_dec h.wid hv
    have ht := h.wid t (.head _)
    have e0 := span_zero h.tail (q := q + 1) (fun p hp => h.above p hp) hc q (by omega)
    rw [at0_less (by rw [hv.len, ht])] at e0
    have h0 := hs 0 q rfl
    have e1 : ent (t :: T) 0 q = at0 t q := rfl
    rw [e1] at h0
    have hc0 : c = 0 := by
      refine Decidable.byContradiction fun z => ?_
      have e2 : at0 v q = c * at0 t q := by omega
      rw [e2, Int.natAbs_mul] at h0
      have : 1 * (at0 t q).natAbs ≤ c.natAbs * (at0 t q).natAbs := Nat.mul_le_mul_right _ (by omega)
      omega
    rw [hc0, less_zero (by rw [hv.len, ht])] at hc
    exact span_small h.tail hc fun i p hp => hs (i + 1) p hp
theorem hs_unique {w : Nat} : ∀ {S S' : Mat} {L L' : List Nat}, Hs w S L → Hs w S' L' → (∀ v, Spn w S v → Spn w S' v) → (∀ v, Spn w S' v → Spn w S v) → S = S' ∧ L = L'
  | [], [], L, L', h, h', _, _ => by
    have h1 := h.len
    have h2 := h'.len
    have e1 : L = [] := List.eq_nil_of_length_eq_zero (by simpa using h1.symm)
    have e2 : L' = [] := List.eq_nil_of_length_eq_zero (by simpa using h2.symm)
    exact ⟨rfl, by rw [e1, e2]⟩
  | [], s' :: T', L, [], _, h', _, _ => by have := h'.len; simp at this
  | [], s' :: T', L, q' :: L', h, h', _, b => by
    have h1 := h'.pos 0 q' rfl
    have h2 := span_small h (b s' (.mem h'.wid (.head _))) (fun i q e => by have := h.len; rw [List.eq_nil_of_length_eq_zero (l := L) (by simpa using this.symm)] at e; simp at e) q'
    have e1 : ent (s' :: T') 0 q' = at0 s' q' := rfl
    omega
  | s :: T, [], [], L', h, _, _, _ => by have := h.len; simp at this
  | s :: T, [], q :: L, L', h, h', a, _ => by
    have h1 := h.pos 0 q rfl
    have h2 := span_small h' (a s (.mem h.wid (.head _))) (fun i q e => by have := h'.len; rw [List.eq_nil_of_length_eq_zero (l := L') (by simpa using this.symm)] at e; simp at e) q
    have e1 : ent (s :: T) 0 q = at0 s q := rfl
    omega
  | s :: T, s' :: T', [], _, h, _, _, _ => by have := h.len; simp at this
  | s :: T, s' :: T', _ :: _, [], _, h', _, _ => by have := h'.len; simp at this
  | s :: T, s' :: T', q :: L, q' :: L', h, h', a, b => by
    have ms : Spn w (s :: T) s := .mem h.wid (.head _)
    have ms' : Spn w (s' :: T') s' := .mem h'.wid (.head _)
    have p0 : 0 < at0 s q := h.pos 0 q rfl
    have p0' : 0 < at0 s' q' := h'.pos 0 q' rfl
    have ls := h.wid s (.head _)
    have ls' := h'.wid s' (.head _)
    have lo : ∀ p ∈ q :: L, q ≤ p := fun p hp => by
      rcases List.mem_cons.mp hp with e | e
      · omega
      · exact Nat.le_of_lt (h.above p e)
    have lo' : ∀ p ∈ q' :: L', q' ≤ p := fun p hp => by
      rcases List.mem_cons.mp hp with e | e
      · omega
      · exact Nat.le_of_lt (h'.above p e)
    have eq : q = q' := by
      rcases Nat.lt_trichotomy q q' with e | e | e
      · have := span_zero h' lo' (a s ms) q e
        omega
      · exact e
      · have := span_zero h lo (b s' ms') q' e
        omega
    subst eq
    have tz : ∀ v, Spn w T v → at0 v q = 0 := fun v hv => span_zero h.tail (q := q + 1) (fun p hp => h.above p hp) hv q (by omega)
    have tz' : ∀ v, Spn w T' v → at0 v q = 0 := fun v hv => span_zero h'.tail (q := q + 1) (fun p hp => h'.above p hp) hv q (by omega)
    have dT : ∀ v, Spn w (s :: T) v → at0 v q = 0 → Spn w T v := fun v hv e => by
      obtain ⟨c, hc⟩ := span_dec h.wid hv
      have e0 := tz _ hc
      rw [at0_less (by rw [hv.len, ls]), e] at e0
      have : c = 0 := by
        have e1 : c * at0 s q = 0 := by omega
        rcases Int.mul_eq_zero.mp e1 with z | z
        · exact z
        · omega
      rw [this, less_zero (by rw [hv.len, ls])] at hc
      exact hc
    have dT' : ∀ v, Spn w (s' :: T') v → at0 v q = 0 → Spn w T' v := fun v hv e => by
      obtain ⟨c, hc⟩ := span_dec h'.wid hv
      have e0 := tz' _ hc
      rw [at0_less (by rw [hv.len, ls']), e] at e0
      have : c = 0 := by
        have e1 : c * at0 s' q = 0 := by omega
        rcases Int.mul_eq_zero.mp e1 with z | z
        · exact z
        · omega
      rw [this, less_zero (by rw [hv.len, ls'])] at hc
      exact hc
    obtain ⟨e1, e2⟩ := hs_unique h.tail h'.tail (fun v hv => dT' v (a v (span_cons hv)) (tz v hv)) (fun v hv => dT v (b v (span_cons hv)) (tz' v hv))
    subst e1 e2
    -- the pivots are one
    have piv : at0 s q = at0 s' q := by
      obtain ⟨c, hc⟩ := span_dec h'.wid (a s ms)
      obtain ⟨d, hd⟩ := span_dec h.wid (b s' ms')
      have e1 := tz' _ hc
      have e2 := tz _ hd
      rw [at0_less (by rw [ls, ls'])] at e1 e2
      have e3 : at0 s q = c * at0 s' q := by omega
      have e4 : at0 s' q = d * at0 s q := by omega
      have c1 : 1 ≤ c := by
        refine Decidable.byContradiction fun z => ?_
        have : c * at0 s' q ≤ 0 := Int.mul_nonpos_of_nonpos_of_nonneg (by omega) (by omega)
        omega
      have d1 : 1 ≤ d := by
        refine Decidable.byContradiction fun z => ?_
        have : d * at0 s q ≤ 0 := Int.mul_nonpos_of_nonpos_of_nonneg (by omega) (by omega)
        omega
      have f1 : 1 * at0 s' q ≤ c * at0 s' q := Int.mul_le_mul_of_nonneg_right c1 (by omega)
      have f2 : 1 * at0 s q ≤ d * at0 s q := Int.mul_le_mul_of_nonneg_right d1 (by omega)
      omega
    have hu : Spn w T (less s 1 s') := dT _ (ms.less h.wid (b s' ms') 1) (by rw [at0_less (by rw [ls, ls'])]; omega)
    have hz := span_small h.tail hu fun i p hp => by
      have r1 := h.red 0 (i + 1) p (by omega) hp
      have r2 := h'.red 0 (i + 1) p (by omega) hp
      have e1 : ent (s :: T) 0 p = at0 s p := rfl
      have e2 : ent (s' :: T) 0 p = at0 s' p := rfl
      have e3 : ent (s :: T) (i + 1) p = ent T i p := rfl
      have e4 : ent (s' :: T) (i + 1) p = ent T i p := rfl
      rw [at0_less (by rw [ls, ls'])]
      omega
    have es : s = s' := row_ext (by rw [ls, ls']) fun i => by
      have := hz i
      rw [at0_less (by rw [ls, ls'])] at this
      omega
    exact ⟨by rw [es], rfl⟩
/-! ### stairs span what the rows span -/
theorem sub_rnd {w p b : Nat} {m : Mat} (hw : Wid w m) (hb : b < m.length) : Sub w (rnd m p b) m ∧ Sub w m (rnd m p b) := by
  have hR : ∀ i, i < m.length → rndR m p b i ∈ rnd m p b := fun i hi => List.mem_map.mpr ⟨i, List.mem_range.mpr hi, rfl⟩
  have hbb : m.getD b [] ∈ rnd m p b := by
    have := hR b hb
    unfold rndR at this
    rw [if_neg (by simp)] at this
    exact this
  constructor
  · intro r hr
    obtain ⟨i, hi, rfl⟩ := List.mem_map.mp hr
    have hi := List.mem_range.mp hi
    unfold rndR
    split
    · exact (Spn.mem hw (getD_mem hi)).less hw (.mem hw (getD_mem hb)) _
    · exact .mem hw (getD_mem hi)
  · intro r hr
    obtain ⟨i, hi, rfl⟩ := mem_getD hr
    have h1 := hR i hi
    unfold rndR at h1
    split at h1
    · have hw' : Wid w (rnd m p b) := rnd_wid hw
      have l1 := hw.get hi
      have l2 := hw.get hb
      have e : less (lsd p (m.getD b []) (m.getD i [])) (-((at0 (m.getD i []) p).fdiv (at0 (m.getD b []) p))) (m.getD b []) = m.getD i [] := row_ext (by rw [less_length, lsd_length]) fun j => by
        rw [at0_less (by rw [lsd_length]; omega), at0_lsd (by omega), Int.neg_mul]
        omega
      rw [← e]
      exact (Spn.mem hw' h1).less hw' (.mem hw' hbb) _
    · exact .mem (rnd_wid hw) h1
theorem erase_sub {m : Mat} {b : Nat} (hb : b < m.length) : ∀ r ∈ m, r = m.getD b [] ∨ r ∈ m.eraseIdx b := by
  intro r hr
  obtain ⟨i, hi, rfl⟩ := mem_getD hr
  by_cases e : i = b
  · exact .inl (by rw [e])
  · refine .inr (List.mem_eraseIdx_iff_getElem.mpr ⟨i, hi, e, ?_⟩)
    rw [List.getD_eq_getElem?_getD, List.getElem?_eq_getElem hi]
    rfl
theorem sub_pull {w p : Nat} {m : Mat} {r : Row} {m' : Mat} (hw : Wid w m) (h : pull m p = (some r, m')) : Sub w (r :: m') m ∧ Sub w m (r :: m') := by
  rcases pull_cases (w := w) (p := p) (P := fun m1 => Sub w m1 m ∧ Sub w m m1) (fun m1 b h1 h2 h3 _ => by
    obtain ⟨s1, s2⟩ := sub_rnd (p := p) h1 (lb_some h3).1
    exact ⟨s1.trans hw h2.1, h2.2.trans (rnd_wid h1) s2⟩) _ m (Nat.lt_succ_self _) hw ⟨.of hw fun _ h => h, .of hw fun _ h => h⟩ with ⟨q, _⟩ | ⟨m1, b, h1, h2, ⟨t1, t2⟩, h3, h4, q⟩
  · rw [q] at h
    cases h
  · rw [q] at h
    injection h with ha hb
    injection ha with ha
    subst ha hb
    have hb := (lb_some h3).1
    obtain ⟨s1, s2⟩ := sub_rnd (p := p) h1 hb
    have wr := rnd_wid (p := p) (b := b) h1
    have wl : (norm (m1.getD b []) p).length = w := by rw [norm_length]; exact h1.get hb
    have wn : Wid w (norm (m1.getD b []) p :: (rnd m1 p b).eraseIdx b) := fun r hr => by
      rcases List.mem_cons.mp hr with e | e
      · rw [e]; exact wl
      · exact wr r (erase_mem e)
    have eb : (rnd m1 p b).getD b [] = m1.getD b [] := by
      unfold rnd
      rw [getD_map_range, if_pos hb]
      unfold rndR
      rw [if_neg (by simp)]
    have nn : ∀ {A : Mat}, Wid w A → Spn w A (m1.getD b []) → Spn w A (norm (m1.getD b []) p) := fun hA h => by
      unfold norm
      split
      · exact h
      · exact h.neg hA
    constructor
    · refine Sub.trans hw (B := rnd m1 p b) (fun r hr => ?_) (s1.trans hw t1)
      rcases List.mem_cons.mp hr with e | e
      · rw [e]
        refine nn wr (.mem wr ?_)
        rw [← eb]
        exact getD_mem (by rw [rnd_length]; exact hb)
      · exact .mem wr (erase_mem e)
    · refine Sub.trans wn (B := rnd m1 p b) (t2.trans wr s2) fun r hr => ?_
      rcases erase_sub (b := b) (by rw [rnd_length]; exact hb) r hr with e | e
      · rw [e, eb]
        have h5 : Spn w (norm (m1.getD b []) p :: (rnd m1 p b).eraseIdx b) (norm (m1.getD b []) p) := .mem wn (.head _)
        by_cases hp : 0 < at0 (m1.getD b []) p
        · unfold norm at h5
          rw [if_pos hp] at h5
          unfold norm
          rw [if_pos hp]
          exact h5
        · have h6 := h5.neg wn
          have e2 : (norm (m1.getD b []) p).map (fun x => -x) = m1.getD b [] := by
            unfold norm
            rw [if_neg hp, List.map_map]
            conv => rhs; rw [← List.map_id (m1.getD b [])]
            exact List.map_congr_left fun x _ => by simp
          rw [e2] at h6
          exact h6
      · exact .mem wn (.tail _ e)
theorem stF_sub {w : Nat} {m : Mat} (hw : Wid w m) : ∀ n, Wid w ((stF m n).1 ++ (stF m n).2) ∧ Sub w ((stF m n).1 ++ (stF m n).2) m ∧ Sub w m ((stF m n).1 ++ (stF m n).2)
  | 0 => ⟨hw, .of hw fun _ h => h, .of hw fun _ h => h⟩
  | n + 1 => by
    obtain ⟨h0, h1, h2⟩ := stF_sub hw n
    rw [stF_succ]
    unfold stStep
    have w1 : Wid w (stF m n).1 := fun r hr => h0 r (List.mem_append_left _ hr)
    have w2 : Wid w (stF m n).2 := fun r hr => h0 r (List.mem_append_right _ hr)
    cases e : pull (stF m n).2 n with
    | mk o l =>
      cases o with
      | none =>
        obtain ⟨a1, _⟩ := pull_no w2 e
        subst a1
        exact ⟨h0, h1, h2⟩
      | some r =>
        obtain ⟨a1, a2, _⟩ := pull_some w2 e
        obtain ⟨b1, b2⟩ := sub_pull w2 e
        have wn : Wid w ((stF m n).1.map (lsd n r) ++ [r] ++ l) := fun x hx => by
          rcases List.mem_append.mp hx with q | q
          · rcases List.mem_append.mp q with q | q
            · obtain ⟨y, hy, rfl⟩ := List.mem_map.mp q
              rw [lsd_length]; exact w1 y hy
            · rw [List.mem_singleton.mp q]; exact a1
          · exact a2 x q
        have hr : Spn w ((stF m n).1.map (lsd n r) ++ [r] ++ l) r := .mem wn (by simp)
        refine ⟨wn, Sub.trans hw (B := (stF m n).1 ++ (stF m n).2) (fun x hx => ?_) h1, Sub.trans wn h2 fun x hx => ?_⟩
        · have hr0 : Spn w ((stF m n).1 ++ (stF m n).2) r := (b1 r (.head _)).sub h0 (.of h0 fun y hy => List.mem_append_right _ hy)
          rcases List.mem_append.mp hx with q | q
          · rcases List.mem_append.mp q with q | q
            · obtain ⟨y, hy, rfl⟩ := List.mem_map.mp q
              exact (Spn.mem h0 (List.mem_append_left _ hy)).less h0 hr0 _
            · rw [List.mem_singleton.mp q]; exact hr0
          · exact (b1 x (.tail _ q)).sub h0 (.of h0 fun y hy => List.mem_append_right _ hy)
        · rcases List.mem_append.mp hx with q | q
          · have l1 := w1 x q
            have e2 : less (lsd n r x) (-((at0 x n).fdiv (at0 r n))) r = x := row_ext (by rw [less_length, lsd_length]) fun j => by
              rw [at0_less (by rw [lsd_length]; omega), at0_lsd (by omega), Int.neg_mul]
              omega
            rw [← e2]
            exact (Spn.mem wn (List.mem_append_left _ (List.mem_append_left _ (List.mem_map.mpr ⟨x, q, rfl⟩)))).less wn hr _
          · refine (b2 x q).sub wn fun y hy => ?_
            rcases List.mem_cons.mp hy with e3 | e3
            · rw [e3]; exact hr
            · exact .mem wn (List.mem_append_right _ e3)
theorem stairs_span {w : Nat} {m : Mat} (hw : Wid w m) (v : Row) : Spn w (stairs m w) v ↔ Spn w m v := by
  obtain ⟨L, h⟩ := sts hw w (Nat.le_refl w)
  obtain ⟨h0, h1, h2⟩ := stF_sub hw w
  have hS : Wid w (stairs m w) := h.h.wid
  constructor
  · intro hv
    exact hv.sub hw (fun r hr => h1 r (List.mem_append_left _ hr))
  · intro hv
    refine (hv.sub h0 h2).sub hS fun r hr => ?_
    rcases List.mem_append.mp hr with q | q
    · exact .mem hS q
    · have e : r = zr w := row_ext (by rw [zr_length, h.wid r q]) fun j => by
        rw [at0_zr]
        obtain ⟨i, _, rfl⟩ := mem_getD q
        by_cases hj : j < w
        · exact h.z i j hj
        · exact at0_out (by rw [h.wid _ q]; omega)
      rw [e]
      exact .zero
/-- rows that span the same have the same stairs -/
theorem stairs_unique {w : Nat} {A B : Mat} (hA : Wid w A) (hB : Wid w B) (h1 : Sub w A B) (h2 : Sub w B A) : stairs A w = stairs B w := by
  obtain ⟨L, h⟩ := stairs_hs hA
  obtain ⟨L', h'⟩ := stairs_hs hB
  refine (hs_unique h h' (fun v hv => ?_) fun v hv => ?_).1
  · exact (stairs_span hB v).mpr (((stairs_span hA v).mp hv).sub hB h1)
  · exact (stairs_span hA v).mpr (((stairs_span hB v).mp hv).sub hA h2)
end G
end
section
set_option linter.all false
set_option maxRecDepth 10000
namespace G
/-! ### the law's own pull -/
def bz (m : Mat) (p : Nat) : List Nat := (List.range m.length).filter fun i => decide (ent m i p ≠ 0)
def betB (m : Mat) (p : Nat) (b i : Nat) : Nat := if (ent m i p).natAbs < (ent m b p).natAbs then i else b
def betO (m : Mat) (p : Nat) (b : Option Nat) (i : Nat) : Option Nat := match b with
  | none => some i
  | some j => some (betB m p j i)
theorem mem_bz {m : Mat} {p i : Nat} : i ∈ bz m p ↔ i < m.length ∧ ent m i p ≠ 0 := by
  unfold bz
  rw [List.mem_filter, List.mem_range]
  simp
theorem lbF_bz (m : Mat) (p : Nat) : ∀ n, lbF m p n = ((List.range n).filter fun i => decide (ent m i p ≠ 0)).foldl (betO m p) none
  | 0 => rfl
  | n + 1 => by
    rw [lbF_succ, lbF_bz m p n, List.range_succ, List.filter_append, List.foldl_append]
    unfold lbStep
    by_cases h : ent m n p = 0
    · rw [if_neg (fun z => z.1 h)]
      simp [h]
    · generalize ((List.range n).filter fun i => decide (ent m i p ≠ 0)).foldl (betO m p) none = b
      have e : [n].filter (fun i => decide (ent m i p ≠ 0)) = [n] := by simp [h]
      rw [e]
      show _ = betO m p b n
      cases b with
      | none =>
        rw [if_pos ⟨h, fun j q => by cases q⟩]
        rfl
      | some j =>
        unfold betO betB
        by_cases q : (ent m n p).natAbs < (ent m j p).natAbs
        · rw [if_pos ⟨h, fun k e => by cases e; exact q⟩]
          dsimp only
          rw [if_pos q]
        · rw [if_neg (fun z => q (z.2 j rfl))]
          dsimp only
          rw [if_neg q]
theorem foldO (m : Mat) (p : Nat) : ∀ (l : List Nat) (a : Nat), l.foldl (betO m p) (some a) = some (l.foldl (betB m p) a)
  | [], _ => rfl
  | x :: l, a => foldO m p l (betB m p a x)
theorem betB_self (m : Mat) (p a : Nat) : betB m p a a = a := by
  unfold betB
  rw [if_neg (Nat.lt_irrefl _)]
/-- the best of the busy ones is the least -/
theorem best_lb {m : Mat} {p a : Nat} {t : List Nat} (h : bz m p = a :: t) : lb m p = some ((bz m p).foldl (betB m p) a) := by
  unfold lb
  rw [lbF_bz]
  show (bz m p).foldl (betO m p) none = _
  rw [h]
  show t.foldl (betO m p) (some a) = some (t.foldl (betB m p) (betB m p a a))
  rw [betB_self, foldO]
theorem bz_nil {m : Mat} {p : Nat} (h : bz m p = []) : lb m p = none := by
  unfold lb
  rw [lbF_bz]
  show (bz m p).foldl (betO m p) none = _
  rw [h]
  rfl
theorem bet_bz {m : Mat} {p a : Nat} {t : List Nat} (h : bz m p = a :: t) : ∀ k, ((bz m p).take k).foldl (betB m p) a ∈ bz m p
  | 0 => by rw [h]; exact .head _
  | k + 1 => by
    have ih := bet_bz h k
    rw [List.take_succ]
    cases e : (bz m p)[k]? with
    | none => simpa [e] using ih
    | some x =>
      rw [List.foldl_append]
      show betB m p _ x ∈ _
      unfold betB
      split
      · exact List.mem_of_getElem? e
      · exact ih
/-- rows told by l are lessened -/
def rndL (m : Mat) (p b : Nat) (l : List Nat) : Mat := (List.range m.length).map fun i => if i ∈ l then rndR m p b i else m.getD i []
theorem rndL_nil (m : Mat) (p b : Nat) : rndL m p b [] = m := by
  unfold rndL
  simp only [List.not_mem_nil, if_false]
  exact list_eq_range m
theorem rndL_length (m : Mat) (p b : Nat) (l : List Nat) : (rndL m p b l).length = m.length := by simp [rndL]
theorem rndL_get {m : Mat} {p b i : Nat} {l : List Nat} (h : i < m.length) : (rndL m p b l)[i]? = some (if i ∈ l then rndR m p b i else m.getD i []) := by
  unfold rndL
  rw [List.getElem?_map, range_get, if_pos h]
  rfl
theorem rndL_getD {m : Mat} {p b i : Nat} {l : List Nat} (h : i < m.length) : (rndL m p b l).getD i [] = if i ∈ l then rndR m p b i else m.getD i [] := by
  rw [List.getD_eq_getElem?_getD, rndL_get h]
  rfl
theorem rndL_snoc {m : Mat} {p b x : Nat} {l : List Nat} (h : x < m.length) : rndL m p b (l ++ [x]) = (rndL m p b l).set x (rndR m p b x) := by
  apply List.ext_getElem?
  intro i
  by_cases hi : i < m.length
  · rw [rndL_get hi]
    by_cases e : i = x
    · subst e
      rw [if_pos (by simp), List.getElem?_set_self (by rw [rndL_length]; exact hi)]
    · rw [List.getElem?_set_ne (fun z => e z.symm), rndL_get hi]
      by_cases q : i ∈ l
      · rw [if_pos (by simp [q]), if_pos q]
      · rw [if_neg (by simp [q, e]), if_neg q]
  · rw [List.getElem?_eq_none (by rw [rndL_length]; omega), List.getElem?_eq_none (by rw [List.length_set, rndL_length]; omega)]
theorem rndR_b (m : Mat) (p b : Nat) : rndR m p b b = m.getD b [] := by
  unfold rndR
  rw [if_neg (by simp)]
theorem rndL_skip {m : Mat} {p b x : Nat} {l : List Nat} (e : rndR m p b x = m.getD x []) : rndL m p b (l ++ [x]) = rndL m p b l := by
  unfold rndL
  apply List.map_congr_left
  intro i hi
  by_cases q : i ∈ l
  · rw [if_pos (by simp [q]), if_pos q]
  · by_cases z : i = x
    · subst z
      rw [if_pos (by simp), if_neg q, e]
    · rw [if_neg (by simp [q, z]), if_neg q]
theorem rndL_bz (m : Mat) (p b : Nat) : rndL m p b (bz m p) = rnd m p b := by
  unfold rndL rnd
  apply List.map_congr_left
  intro i hi
  have hi := List.mem_range.mp hi
  split
  · rfl
  · rename_i h
    unfold rndR
    rw [if_neg]
    rintro ⟨_, z⟩
    exact h (mem_bz.mpr ⟨hi, z⟩)
theorem clean_bz {m : Mat} {p b : Nat} (h : bz m p = [b]) : Clean m p b := fun i hi hn => by
  refine Decidable.byContradiction fun z => ?_
  have := mem_bz.mpr ⟨hi, z⟩
  rw [h] at this
  exact hn (List.mem_singleton.mp this)
theorem pull_one {m : Mat} {p b : Nat} (h : bz m p = [b]) : pull m p = (some (norm (m.getD b []) p), m.eraseIdx b) := by
  have e : lb m p = some b := by
    rw [best_lb h, h]
    show some (betB m p b b) = _
    rw [betB_self]
  have hc := rnd_alone (clean_bz h)
  have := pull_clean e (by rw [hc]; exact clean_bz h)
  rw [hc] at this
  exact this
/-- a round more changes nothing of what is pulled -/
theorem pull_round {m : Mat} {p b w : Nat} (hw : Wid w m) (e : lb m p = some b) : pull m p = pull (rnd m p b) p := by
  by_cases hc : Clean (rnd m p b) p b
  · obtain ⟨hb, hz, _⟩ := lb_some e
    have ebb : ent (rnd m p b) b p = ent m b p := (rnd_col hw e b).2.2
    have e2 : lb (rnd m p b) p = some b := by
      cases q : lb (rnd m p b) p with
      | none => exact absurd (lb_none q b) (by rw [ebb]; exact hz)
      | some b' =>
        obtain ⟨h1, h2, _⟩ := lb_some q
        by_cases z : b' = b
        · rw [z]
        · exact absurd (hc b' h1 z) h2
    have e3 := rnd_alone hc
    have gb : (rnd m p b).getD b [] = m.getD b [] := by
      unfold rnd
      rw [getD_map_range, if_pos hb, rndR_b]
    rw [pull_clean e hc, pull_clean e2 (by rw [e3]; exact hc), e3, gb]
  · exact pull_step hw e hc
theorem bz_clean {m : Mat} {p b : Nat} (h : Clean m p b) (hb : b < m.length) (hz : ent m b p ≠ 0) : bz m p = [b] := by
  have h1 : b ∈ bz m p := mem_bz.mpr ⟨hb, hz⟩
  have h2 : ∀ x ∈ bz m p, x = b := fun x hx => by
    obtain ⟨a, c⟩ := mem_bz.mp hx
    by_cases q : x = b
    · exact q
    · exact absurd (h x a q) c
  have h3 : (bz m p).Nodup := List.Pairwise.filter _ List.nodup_range
  cases e : bz m p with
  | nil => rw [e] at h1; cases h1
  | cons x t =>
    rw [e] at h2 h3
    have hx := h2 x (.head _)
    cases t with
    | nil => rw [hx]
    | cons y t =>
      have hy := h2 y (.tail _ (.head _))
      have := (List.nodup_cons.mp h3).1
      exact absurd (by rw [hx, hy]; exact .head _) this
def mu (m : Mat) (p : Nat) : Nat := 2 * meas m p + (if (bz m p).length ≤ 1 then 0 else 1)
theorem mu_rnd {m : Mat} {p b w : Nat} (hw : Wid w m) (e : lb m p = some b) (h : ¬ (bz m p).length ≤ 1) : mu (rnd m p b) p < mu m p := by
  unfold mu
  rw [if_neg h]
  by_cases hc : Clean (rnd m p b) p b
  · obtain ⟨hb, hz, _⟩ := lb_some e
    have ebb : ent (rnd m p b) b p = ent m b p := (rnd_col hw e b).2.2
    have h1 := bz_clean hc (by rw [rnd_length]; exact hb) (by rw [ebb]; exact hz)
    have h2 : meas (rnd m p b) p ≤ (ent (rnd m p b) b p).natAbs := meas_le (by rw [ebb]; exact hz)
    rw [ebb, ← meas_eq e] at h2
    rw [h1, if_pos (by simp)]
    omega
  · have := meas_rnd hw e hc
    split <;> omega
/-- what the law's loop keeps -/
def PL (M : Nat) (m : Mat) (p : Nat) : Prop := PB M m p ∨ (bz m p).length = 1
theorem PL.step {M : Nat} {m : Mat} {p b w : Nat} (h : PL M m p) (hM : 0 < M) (hw : Wid w m) (e : lb m p = some b) (hn : (bz m p).length ≠ 1) : Le (3 * M ^ 4) m ∧ PL M (rnd m p b) p := by
  rcases h with h | h
  · obtain ⟨a1, _, a3⟩ := h.step hM hw e
    refine ⟨a1, ?_⟩
    by_cases hc : Clean (rnd m p b) p b
    · obtain ⟨hb, hz, _⟩ := lb_some e
      have ebb : ent (rnd m p b) b p = ent m b p := (rnd_col hw e b).2.2
      exact .inr (by rw [bz_clean hc (by rw [rnd_length]; exact hb) (by rw [ebb]; exact hz)]; rfl)
    · exact .inl (a3 hc)
  · exact absurd h hn
theorem filter_head {n q : Nat} {f : Nat → Bool} (h1 : q < n) (h2 : f q = true) (h3 : ∀ j, j < q → f j = false) : ((List.range n).filter f)[0]? = some q := by
  have := find_range n f q h1 h2 h3
  rw [← List.head?_filter, List.head?_eq_getElem?] at this
  exact this
theorem sumTo_list (n : Nat) (f : Nat → Int) : ((List.range n).map f).sum = sumTo n f := by
  induction n with
  | zero => rfl
  | succ n ih =>
    rw [List.range_succ, List.map_append, List.sum_append, ih]
    show _ + (f n + 0) = sumTo n f + f n
    omega
/-- the first n amounts times rows -/
def mixF (a : Row) (g : Mat) (w n : Nat) : Row := (List.range w).map fun j => sumTo n fun i => at0 a i * ent g i j
theorem mixF_zero (a : Row) (g : Mat) (w : Nat) : mixF a g w 0 = zr w := row_ext (by simp [mixF, zr]) fun i => by
  unfold mixF
  rw [at0_map_range, at0_zr]
  split <;> rfl
theorem mixF_length (a : Row) (g : Mat) (w n : Nat) : (mixF a g w n).length = w := by simp [mixF]
theorem mixF_succ (a : Row) (g : Mat) (w n : Nat) : mixF a g w (n + 1) = (List.range w).map fun j => at0 (mixF a g w n) j + at0 a n * ent g n j := by
  unfold mixF
  apply List.map_congr_left
  intro j hj
  rw [at0_map_range, if_pos (List.mem_range.mp hj)]
  rfl
theorem mixF_all (a : Row) (g : Mat) (w : Nat) : mixF a g w g.length = mixM a g w := rfl
end G
end
section
set_option linter.all false
set_option maxRecDepth 10000
namespace G
/-! ### lists of one span -/
structure Mt (w : Nat) (m' m : Mat) : Prop where
  wid : Wid w m'
  a : Sub w m' m
  b : Sub w m m'
theorem Mt.perm {w : Nat} {m' m : Mat} (hw : Wid w m) (h : m'.Perm m) : Mt w m' m := by
  have hw' : Wid w m' := fun r hr => hw r (h.mem_iff.mp hr)
  exact ⟨hw', .of hw fun r hr => h.mem_iff.mp hr, .of hw' fun r hr => h.mem_iff.mpr hr⟩
theorem Mt.trans {w : Nat} {A B C : Mat} (h : Mt w A B) (k : Mt w B C) (hC : Wid w C) : Mt w A C := ⟨h.wid, h.a.trans hC k.a, k.b.trans h.wid h.b⟩
theorem Mt.add {w : Nat} {m : Mat} {r : Row} (hw : Wid w m) (h : Spn w m r) : Mt w (m ++ [r]) m := by
  have hw' : Wid w (m ++ [r]) := fun s hs => by
    rcases List.mem_append.mp hs with hs | hs
    · exact hw s hs
    · rw [List.mem_singleton.mp hs]; exact h.len
  refine ⟨hw', fun s hs => ?_, .of hw' fun s hs => List.mem_append_left _ hs⟩
  rcases List.mem_append.mp hs with hs | hs
  · exact .mem hw hs
  · rw [List.mem_singleton.mp hs]; exact h
theorem neg_neg_row (r : Row) : (r.map fun x => -x).map (fun x => -x) = r := by
  rw [List.map_map]
  exact (List.map_congr_left fun x _ => by simp).trans (List.map_id r)
theorem Mt.neg {w i : Nat} {m : Mat} (hw : Wid w m) (hi : i < m.length) : Mt w (m.set i ((m.getD i []).map fun x => -x)) m := by
  have hm : m.getD i [] ∈ m := getD_mem hi
  have hw' : Wid w (m.set i ((m.getD i []).map fun x => -x)) := fun s hs => by
    rcases List.mem_or_eq_of_mem_set hs with hs | hs
    · exact hw s hs
    · rw [hs, List.length_map]; exact hw _ hm
  have hin : ((m.getD i []).map fun x => -x) ∈ m.set i ((m.getD i []).map fun x => -x) := List.mem_of_getElem? (List.getElem?_set_self hi)
  refine ⟨hw', fun s hs => ?_, fun s hs => ?_⟩
  · rcases List.mem_or_eq_of_mem_set hs with hs | hs
    · exact .mem hw hs
    · rw [hs]; exact (Spn.mem hw hm).neg hw
  · obtain ⟨j, hj, e⟩ := List.getElem_of_mem hs
    by_cases z : i = j
    · subst z
      have e2 : m.getD i [] = s := by rw [List.getD_eq_getElem?_getD, List.getElem?_eq_getElem hi, e]; rfl
      have := (Spn.mem hw' hin).neg hw'
      rw [neg_neg_row] at this
      rw [e2] at this ⊢
      exact this
    · refine .mem hw' (List.mem_of_getElem? (i := j) ?_)
      rw [List.getElem?_set_ne z, List.getElem?_eq_getElem hj, e]
end G
end
section
set_option linter.all false
set_option maxRecDepth 10000
namespace G
/-! ### rows with what weights show at them -/
def dot (u r : Row) : Int := sumTo r.length fun i => at0 u i * at0 r i
theorem dot_zero {u : Row} {w : Nat} : dot u (zr w) = 0 := by
  unfold dot
  rw [zr_length, sumTo_congr (g := fun _ => 0) fun i _ => by rw [at0_zr, Int.mul_zero]]
  exact sumTo_zero
theorem dot_less {u v r : Row} {k : Int} (h : v.length = r.length) : dot u (less v k r) = dot u v - k * dot u r := by
  unfold dot
  rw [less_length, h, ← sumTo_lin]
  exact sumTo_congr fun i _ => by
    rw [at0_less h, Int.mul_sub, ← Int.mul_assoc, ← Int.mul_assoc, Int.mul_comm (at0 u i) k]
def show1 (W : Mat) (r : Row) : Row := (W.map fun u => dot u r) ++ r
def shows (A W : Mat) : Mat := A.map (show1 W)
theorem show1_length {W : Mat} {r : Row} : (show1 W r).length = W.length + r.length := by simp [show1]
theorem at0_map {W : Mat} {f : Row → Int} {i : Nat} (h : i < W.length) : at0 (W.map f) i = f (W.getD i []) := by
  unfold at0
  rw [List.getD_eq_getElem?_getD, List.getD_eq_getElem?_getD, List.getElem?_map, List.getElem?_eq_getElem h]
  rfl
theorem at0_show {W : Mat} {r : Row} {i : Nat} : at0 (show1 W r) i = if i < W.length then dot (W.getD i []) r else at0 r (i - W.length) := by
  unfold show1
  rw [at0_app, List.length_map]
  split
  · rename_i h
    rw [at0_map h]
  · rfl
theorem show1_zero {W : Mat} {w : Nat} : show1 W (zr w) = zr (W.length + w) := row_ext (by rw [show1_length, zr_length, zr_length]) fun i => by
  rw [at0_show, at0_zr, at0_zr]
  split
  · exact dot_zero
  · rfl
theorem show1_less {W : Mat} {v r : Row} {k : Int} (h : v.length = r.length) : show1 W (less v k r) = less (show1 W v) k (show1 W r) := row_ext (by rw [less_length, show1_length, show1_length, less_length]) fun i => by
  rw [at0_less (by rw [show1_length, show1_length, h]), at0_show, at0_show, at0_show]
  split
  · exact dot_less h
  · exact at0_less h
theorem drop_show {W : Mat} {r : Row} : (show1 W r).drop W.length = r := by
  unfold show1
  rw [List.drop_append_of_le_length (by simp), List.drop_of_length_le (by simp)]
  rfl
theorem shows_wid {w : Nat} {A W : Mat} (h : Wid w A) : Wid (W.length + w) (shows A W) := fun r hr => by
  obtain ⟨s, hs, rfl⟩ := List.mem_map.mp hr
  rw [show1_length, h s hs]
theorem span_show {w : Nat} {A W : Mat} (h : Wid w A) {u : Row} (hu : Spn w A u) : Spn (W.length + w) (shows A W) (show1 W u) := by
  induction hu with
  | zero => rw [show1_zero]; exact .zero
  | step k h1 h2 ih =>
    rw [show1_less (by rw [h1.len, h _ h2])]
    exact ih.step k (List.mem_map.mpr ⟨_, h2, rfl⟩)
theorem span_shown {w : Nat} {A W : Mat} (h : Wid w A) {x : Row} (hx : Spn (W.length + w) (shows A W) x) : ∃ u, Spn w A u ∧ x = show1 W u := by
  induction hx with
  | zero => exact ⟨zr w, .zero, show1_zero.symm⟩
  | step k h1 h2 ih =>
    obtain ⟨u, hu, rfl⟩ := ih
    obtain ⟨s, hs, rfl⟩ := List.mem_map.mp h2
    exact ⟨less u k s, hu.step k hs, (show1_less (by rw [hu.len, h s hs])).symm⟩
/-! ### what is left spans what begins with zeros -/
theorem span_split {w : Nat} {S R : Mat} (hS : Wid w S) (hR : Wid w R) {v : Row} (hv : Spn w (S ++ R) v) : ∃ s, Spn w S s ∧ Spn w R (less v 1 s) := by
  induction hv with
  | zero => exact ⟨zr w, .zero, by rw [show less (zr w) 1 (zr w) = zr w from row_ext (less_length _ _ _) fun i => by rw [at0_less rfl, at0_zr]; rfl]; exact .zero⟩
  | @step v r k h1 h2 ih =>
    obtain ⟨s, hs, hd⟩ := ih
    have hl := h1.len
    have hls := hs.len
    rcases List.mem_append.mp h2 with z | z
    · have hr := hS r z
      refine ⟨less s k r, hs.step k z, ?_⟩
      have e : less (less v k r) 1 (less s k r) = less v 1 s := row_ext (by simp [less_length]) fun i => by
        rw [at0_less (by rw [less_length, less_length]; omega), at0_less (by omega), at0_less (by omega), at0_less (by omega)]
        omega
      rw [e]
      exact hd
    · have hr := hR r z
      refine ⟨s, hs, ?_⟩
      have e : less (less v k r) 1 s = less (less v 1 s) k r := row_ext (by simp [less_length]) fun i => by
        rw [at0_less (by rw [less_length]; omega), at0_less (by omega), at0_less (by rw [less_length]; omega), at0_less (by omega)]
        omega
      rw [e]
      exact hd.step k z
theorem span_lead0 {w n : Nat} {R : Mat} (hR : Wid w R) (hz : ∀ i j, j < n → ent R i j = 0) {v : Row} (hv : Spn w R v) : ∀ j, j < n → at0 v j = 0 := by
  refine hv.all (T := fun v => ∀ j, j < n → at0 v j = 0) hR (fun j _ => at0_zr) fun v r k hl hr ih j hj => ?_
  rw [at0_less (by rw [hl, hR r hr]), ih j hj]
  obtain ⟨i, hi, rfl⟩ := mem_getD hr
  have := hz i j hj
  unfold ent at this
  rw [this]
  simp
theorem rest_span {w n : Nat} {m : Mat} (hw : Wid w m) (hn : n ≤ w) (v : Row) : Spn w (stF m n).2 v ↔ Spn w m v ∧ ∀ j, j < n → at0 v j = 0 := by
  obtain ⟨L, h⟩ := sts hw n hn
  obtain ⟨h0, h1, h2⟩ := stF_sub hw n
  constructor
  · intro hv
    exact ⟨hv.sub hw fun r hr => h1 r (List.mem_append_right _ hr), span_lead0 h.wid h.z hv⟩
  · rintro ⟨hv, hz⟩
    obtain ⟨s, hs, hd⟩ := span_split h.h.wid h.wid (hv.sub h0 h2)
    have hdz := span_lead0 h.wid h.z hd
    have ls := hs.len
    have lv := hv.len
    have s0 : ∀ i, at0 s i = 0 := span_small h.h hs fun i q e => by
      have hq := h.l q (List.mem_of_getElem? e)
      have := hdz q hq
      rw [at0_less (by omega), hz q hq] at this
      have e0 : at0 s q = 0 := by omega
      have := h.h.pos i q e
      rw [e0]
      omega
    have e : less v 1 s = v := row_ext (less_length _ _ _) fun i => by
      rw [at0_less (by omega), s0 i]
      simp
    rw [e] at hd
    exact hd
/-! ### cut by weights -/
def drp (n : Nat) (A : Mat) : Mat := A.map (List.drop n)
theorem at0_drop {r : Row} {n i : Nat} : at0 (r.drop n) i = at0 r (n + i) := by
  unfold at0
  rw [List.getD_eq_getElem?_getD, List.getElem?_drop, List.getD_eq_getElem?_getD]
theorem drp_wid {n w : Nat} {A : Mat} (h : Wid (n + w) A) : Wid w (drp n A) := fun r hr => by
  obtain ⟨s, hs, rfl⟩ := List.mem_map.mp hr
  rw [List.length_drop, h s hs]
  omega
theorem less_drop {v r : Row} {k : Int} {n : Nat} (h : v.length = r.length) : (less v k r).drop n = less (v.drop n) k (r.drop n) := row_ext (by rw [less_length, List.length_drop, List.length_drop, less_length]) fun i => by
  rw [at0_less (by rw [List.length_drop, List.length_drop, h]), at0_drop, at0_drop, at0_drop, at0_less h]
theorem span_drop {n w : Nat} {R : Mat} (h : Wid (n + w) R) {x : Row} (hx : Spn (n + w) R x) : Spn w (drp n R) (x.drop n) := by
  induction hx with
  | zero =>
    have e : (zr (n + w)).drop n = zr w := row_ext (by rw [List.length_drop, zr_length, zr_length]; omega) fun i => by rw [at0_drop, at0_zr, at0_zr]
    rw [e]
    exact .zero
  | step k h1 h2 ih =>
    rw [less_drop (by rw [h1.len, h _ h2])]
    exact ih.step k (List.mem_map.mpr ⟨_, h2, rfl⟩)
/-- the rows that are left, without what the weights show -/
def cutR (A W : Mat) : Mat := drp W.length (stF (shows A W) W.length).2
def cutM (A W : Mat) (w : Nat) : Mat := stairs (cutR A W) w
theorem cutR_wid {w : Nat} {A W : Mat} (h : Wid w A) : Wid w (cutR A W) := by
  obtain ⟨L, q⟩ := sts (shows_wid (W := W) h) W.length (Nat.le_add_right _ _)
  exact drp_wid q.wid
theorem cut_span {w : Nat} {A W : Mat} (h : Wid w A) (v : Row) : Spn w (cutR A W) v ↔ Spn w A v ∧ ∀ i, i < W.length → dot (W.getD i []) v = 0 := by
  have hs := shows_wid (W := W) h
  obtain ⟨L, q⟩ := sts hs W.length (Nat.le_add_right _ _)
  have key := rest_span hs (Nat.le_add_right W.length w)
  constructor
  · intro hv
    induction hv with
    | zero => exact ⟨.zero, fun i _ => dot_zero⟩
    | @step v r k h1 h2 ih =>
      obtain ⟨x, hx, rfl⟩ := List.mem_map.mp h2
      obtain ⟨y1, y2⟩ := (key x).mp (.mem q.wid hx)
      obtain ⟨u, hu, rfl⟩ := span_shown h y1
      rw [drop_show]
      refine ⟨ih.1.less h hu k, fun i hi => ?_⟩
      have := y2 i hi
      rw [at0_show, if_pos hi] at this
      rw [dot_less (by rw [h1.len, hu.len]), ih.2 i hi, this]
      simp
  · rintro ⟨h1, h2⟩
    have := span_drop q.wid ((key (show1 W v)).mpr ⟨span_show h h1, fun j hj => by rw [at0_show, if_pos hj]; exact h2 j hj⟩)
    rw [drop_show] at this
    exact this
/-- what is cut hangs on the span alone -/
theorem cut_unique {w : Nat} {A B W : Mat} (hA : Wid w A) (hB : Wid w B) (h : ∀ v, Spn w A v ↔ Spn w B v) : cutM A W w = cutM B W w := by
  have e : ∀ v, Spn w (cutR A W) v ↔ Spn w (cutR B W) v := fun v => by rw [cut_span hA, cut_span hB, h v]
  exact stairs_unique (cutR_wid hA) (cutR_wid hB) (fun r hr => (e r).mp (.mem (cutR_wid hA) hr)) fun r hr => (e r).mpr (.mem (cutR_wid hB) hr)
end G
end
section
set_option linter.all false
set_option maxRecDepth 10000
namespace G
/-! ### what stairs leave -/
theorem red_span {w : Nat} {S : Mat} {x : Row} (hS : Wid w S) (hx : x.length = w) : ∀ n, n ≤ S.length → (redF S x n).length = w ∧ Spn w S (less x 1 (redF S x n))
  | 0, _ => by
    refine ⟨hx, ?_⟩
    have e : less x 1 (redF S x 0) = zr w := row_ext (by rw [less_length, zr_length, hx]) fun i => by
      rw [redF_zero, at0_less rfl, at0_zr]
      omega
    rw [e]
    exact .zero
  | n + 1, h => by
    obtain ⟨h1, h2⟩ := red_span hS hx n (by omega)
    have hs := hS.get (i := n) (by omega)
    rw [redF_succ (by omega)]
    unfold redStep lsd
    refine ⟨by rw [less_length]; exact h1, ?_⟩
    generalize (at0 (redF S x n) _).fdiv _ = k
    have e : less x 1 (less (redF S x n) k (S.getD n [])) = less (less x 1 (redF S x n)) (-k) (S.getD n []) := row_ext (by simp [less_length]) fun i => by
      rw [at0_less (by rw [less_length]; omega), at0_less (by omega), at0_less (by rw [less_length]; omega), at0_less (by omega), Int.neg_mul]
      omega
    rw [e]
    exact h2.step _ (getD_mem (by omega))
/-- at the leads little is left -/
theorem red_small {w : Nat} {S : Mat} {L : List Nat} {x : Row} (h : Hs w S L) (hx : x.length = w) : ∀ n, n ≤ S.length → ∀ i q, i < n → L[i]? = some q → 0 ≤ at0 (redF S x n) q ∧ at0 (redF S x n) q < ent S i q
  | 0, _, i, q, hi, _ => by omega
  | n + 1, hn, i, q, hi, e => by
    have h1 := (red_span h.wid hx n (by omega)).1
    have hs := h.wid.get (i := n) (by omega)
    obtain ⟨p, hp, hl, hp2⟩ := h.lead (i := n) (by omega)
    have pn := h.pos n p hp2
    rw [redF_succ (by omega)]
    unfold redStep
    rw [leadPl_eq hl]
    by_cases z : i = n
    · subst z
      rw [hp2] at e
      cases e
      exact lsd_rem (by omega) pn
    · have ih := red_small h hx n (by omega) i q (by omega) e
      have qp : q < p := h.up i n q p (by omega) e hp2
      rw [at0_lsd (by omega)]
      have z0 := h.zero n p q hp2 qp
      unfold ent at z0
      rw [z0]
      simpa using ih
/-! ### a row that shows what is wanted -/
def leftOf (A W : Mat) (w : Nat) (y : Row) : Row := red (stF (shows A W) W.length).1 (y ++ zr w)
theorem isz_take {r : Row} {n : Nat} (h : n ≤ r.length) : isz (r.take n) = true ↔ ∀ i, i < n → at0 r i = 0 := by
  rw [isz_iff]
  constructor
  · intro q i hi
    have := q i
    unfold at0 at this ⊢
    rw [List.getD_eq_getElem?_getD, List.getElem?_take, if_pos hi] at this
    rw [List.getD_eq_getElem?_getD]
    exact this
  · intro q i
    unfold at0
    rw [List.getD_eq_getElem?_getD, List.getElem?_take]
    split
    · rename_i hi
      have := q i hi
      unfold at0 at this
      rw [List.getD_eq_getElem?_getD] at this
      exact this
    · rfl
theorem left_facts {w : Nat} {A W : Mat} {y : Row} (hA : Wid w A) (hy : y.length = W.length) : (leftOf A W w y).length = W.length + w ∧ ∃ u, Spn w A u ∧ less (y ++ zr w) 1 (leftOf A W w y) = show1 W u := by
  have hs := shows_wid (W := W) hA
  obtain ⟨L, q⟩ := sts hs W.length (Nat.le_add_right _ _)
  obtain ⟨h0, h1, h2⟩ := stF_sub hs W.length
  have hx : (y ++ zr w).length = W.length + w := by rw [List.length_append, zr_length, hy]
  obtain ⟨a1, a2⟩ := red_span q.h.wid hx _ (Nat.le_refl _)
  rw [redF_all] at a1 a2
  refine ⟨a1, ?_⟩
  obtain ⟨u, hu, e⟩ := span_shown hA (a2.sub hs fun r hr => h1 r (List.mem_append_left _ hr))
  exact ⟨u, hu, e⟩
theorem left_zero {w : Nat} {A W : Mat} {y : Row} (hA : Wid w A) (hy : y.length = W.length) : isz ((leftOf A W w y).take W.length) = true ↔ ∃ u, Spn w A u ∧ ∀ i, i < W.length → dot (W.getD i []) u = at0 y i := by
  have hs := shows_wid (W := W) hA
  obtain ⟨ll, u, hu, e⟩ := left_facts hA hy
  have hx : (y ++ zr w).length = W.length + w := by rw [List.length_append, zr_length, hy]
  rw [isz_take (by omega)]
  have at_e : ∀ i, i < W.length → at0 y i - at0 (leftOf A W w y) i = dot (W.getD i []) u := fun i hi => by
    have := congrArg (fun r => at0 r i) e
    rw [at0_less (by omega), at0_show, if_pos hi, at0_app, if_pos (by omega)] at this
    omega
  constructor
  · intro z
    exact ⟨u, hu, fun i hi => by rw [← at_e i hi, z i hi]; simp⟩
  · rintro ⟨v, hv, hd⟩
    -- the difference lies within the leads' small numbers
    obtain ⟨L, q⟩ := sts hs W.length (Nat.le_add_right _ _)
    obtain ⟨h0, h1, h2⟩ := stF_sub hs W.length
    obtain ⟨s, ss, sr⟩ := span_split q.h.wid q.wid ((span_show (W := W) hA hv).sub h0 h2)
    have srz := span_lead0 q.wid q.z sr
    obtain ⟨_, a2⟩ := red_span q.h.wid hx _ (Nat.le_refl _)
    rw [redF_all] at a2
    have a2 : Spn (W.length + w) (stF (shows A W) W.length).1 (less (y ++ zr w) 1 (leftOf A W w y)) := a2
    have ls := ss.len
    have lv := hv.len
    have lsv : (show1 W v).length = W.length + w := by rw [show1_length, lv]
    have val : ∀ i, i < W.length → at0 (less s 1 (less (y ++ zr w) 1 (leftOf A W w y))) i = at0 (leftOf A W w y) i := fun i hi => by
      have e1 := srz i hi
      rw [at0_less (by omega), at0_show, if_pos hi, hd i hi] at e1
      rw [at0_less (by rw [less_length]; omega), at0_less (by omega), at0_app, if_pos (by omega)]
      omega
    have sm := span_small q.h (ss.less q.h.wid a2 1) fun i p hp => by
      have hpn := q.l p (List.mem_of_getElem? hp)
      have hi : i < (stF (shows A W) W.length).1.length := by rw [q.h.len]; exact (List.getElem?_eq_some_iff.mp hp).1
      have := red_small q.h hx _ (Nat.le_refl _) i p hi hp
      rw [redF_all] at this
      have this : 0 ≤ at0 (leftOf A W w y) p ∧ at0 (leftOf A W w y) p < ent (stF (shows A W) W.length).1 i p := this
      rw [val p hpn]
      omega
    intro i hi
    rw [← val i hi]
    exact sm i
/-- the row told -/
def toldOf (A W : Mat) (w : Nat) (y : Row) : Row := ((leftOf A W w y).drop W.length).map fun x => -1 * x
theorem told_ok {w : Nat} {A W : Mat} {y : Row} (hA : Wid w A) (hy : y.length = W.length) (hz : isz ((leftOf A W w y).take W.length) = true) : Spn w A (toldOf A W w y) ∧ ∀ i, i < W.length → dot (W.getD i []) (toldOf A W w y) = at0 y i := by
  obtain ⟨ll, u, hu, e⟩ := left_facts hA hy
  have hx : (y ++ zr w).length = W.length + w := by rw [List.length_append, zr_length, hy]
  have hz' := (isz_take (by omega)).mp hz
  have lu := hu.len
  have eu : toldOf A W w y = u := row_ext (by unfold toldOf; rw [List.length_map, List.length_drop, ll, lu]; omega) fun i => by
    have e1 : at0 (toldOf A W w y) i = -1 * at0 (leftOf A W w y) (W.length + i) := by
      unfold toldOf
      rw [← at0_drop]
      generalize (leftOf A W w y).drop W.length = r
      by_cases hi : i < r.length
      · unfold at0
        rw [List.getD_eq_getElem?_getD, List.getElem?_map, List.getD_eq_getElem?_getD, List.getElem?_eq_getElem hi]
        rfl
      · rw [at0_out (by rw [List.length_map]; omega), at0_out (by omega)]
        rfl
    have := congrArg (fun r => at0 r (W.length + i)) e
    rw [at0_less (by omega), at0_show, if_neg (by omega), at0_app, if_neg (by omega), at0_zr] at this
    rw [e1]
    have e2 : W.length + i - W.length = i := by omega
    rw [e2] at this
    omega
  rw [eu]
  refine ⟨hu, fun i hi => ?_⟩
  have := congrArg (fun r => at0 r i) e
  rw [at0_less (by omega), at0_show, if_pos hi, at0_app, if_pos (by omega), hz' i hi] at this
  omega
end G
end
section
set_option linter.all false
set_option maxRecDepth 10000
namespace G
/-! ### greatest common divisors -/
def comN (u : Row) (A : Mat) : Nat := A.foldl (fun g r => Nat.gcd g (dot u r).natAbs) 0
theorem fold_dvd (u : Row) (d : Nat) : ∀ (A : Mat) (g : Nat), d ∣ A.foldl (fun g r => Nat.gcd g (dot u r).natAbs) g ↔ d ∣ g ∧ ∀ r ∈ A, (d : Int) ∣ dot u r
  | [], g => by simp
  | r :: A, g => by
    show d ∣ A.foldl _ (Nat.gcd g (dot u r).natAbs) ↔ _
    rw [fold_dvd u d A, Nat.dvd_gcd_iff, ← Int.ofNat_dvd_left]
    constructor
    · rintro ⟨⟨a, b⟩, c⟩
      refine ⟨a, fun s hs => ?_⟩
      rcases List.mem_cons.mp hs with rfl | hs
      · exact b
      · exact c s hs
    · rintro ⟨a, b⟩
      exact ⟨⟨a, b r (.head _)⟩, fun s hs => b s (.tail _ hs)⟩
theorem com_dvd {u : Row} {A : Mat} {d : Nat} : d ∣ comN u A ↔ ∀ r ∈ A, (d : Int) ∣ dot u r := by
  unfold comN
  rw [fold_dvd]
  exact ⟨fun h => h.2, fun h => ⟨Nat.dvd_zero d, h⟩⟩
theorem span_dvd {w : Nat} {u : Row} {A : Mat} {d : Nat} (hA : Wid w A) (h : ∀ r ∈ A, (d : Int) ∣ dot u r) {v : Row} (hv : Spn w A v) : (d : Int) ∣ dot u v := by
  induction hv with
  | zero => rw [dot_zero]; exact Int.dvd_zero _
  | @step v r k h1 h2 ih =>
    rw [dot_less (by rw [h1.len, hA r h2])]
    exact Int.dvd_sub ih (Int.dvd_trans (h r h2) (Int.dvd_mul_left _ _))
theorem com_unique {w : Nat} {u : Row} {A B : Mat} (hA : Wid w A) (hB : Wid w B) (h : ∀ v, Spn w A v ↔ Spn w B v) : comN u A = comN u B := by
  refine Nat.dvd_antisymm (com_dvd.mpr fun r hr => ?_) (com_dvd.mpr fun r hr => ?_)
  · exact span_dvd hA (com_dvd.mp (Nat.dvd_refl _)) ((h r).mpr (.mem hB hr))
  · exact span_dvd hB (com_dvd.mp (Nat.dvd_refl _)) ((h r).mp (.mem hA hr))
theorem gcd_fmod (a b : Int) : Nat.gcd b.natAbs (a.fmod b).natAbs = Nat.gcd a.natAbs b.natAbs := by
  have e := Int.mul_fdiv_add_fmod a b
  refine Nat.dvd_antisymm (Nat.dvd_gcd_iff.mpr ⟨?_, Nat.gcd_dvd_left _ _⟩) (Nat.dvd_gcd_iff.mpr ⟨Nat.gcd_dvd_right _ _, ?_⟩)
  · rw [← Int.ofNat_dvd_left]
    have h : ((Nat.gcd b.natAbs (a.fmod b).natAbs : Nat) : Int) ∣ b * a.fdiv b + a.fmod b := Int.dvd_add (Int.dvd_trans (Int.ofNat_dvd_left.mpr (Nat.gcd_dvd_left _ _)) (Int.dvd_mul_right _ _)) (Int.ofNat_dvd_left.mpr (Nat.gcd_dvd_right _ _))
    rw [e] at h
    exact h
  · rw [← Int.ofNat_dvd_left]
    have e2 : a.fmod b = a - b * a.fdiv b := by omega
    rw [e2]
    exact Int.dvd_sub (Int.ofNat_dvd_left.mpr (Nat.gcd_dvd_left _ _)) (Int.dvd_trans (Int.ofNat_dvd_left.mpr (Nat.gcd_dvd_right _ _)) (Int.dvd_mul_right _ _))
/-! ### rows in stairs that need not be lessened -/
structure Eh (w : Nat) (S : Mat) (L : List Nat) : Prop where
  len : S.length = L.length
  wid : Wid w S
  up : ∀ (i j a b : Nat), i < j → L[i]? = some a → L[j]? = some b → a < b
  zero : ∀ (i q j : Nat), L[i]? = some q → j < q → ent S i j = 0
  pos : ∀ (i q : Nat), L[i]? = some q → 0 < ent S i q
theorem Hs.eh {w : Nat} {S : Mat} {L : List Nat} (h : Hs w S L) : Eh w S L := ⟨h.len, h.wid, h.up, h.zero, h.pos⟩
theorem Eh.tail {w q : Nat} {s : Row} {T : Mat} {L : List Nat} (h : Eh w (s :: T) (q :: L)) : Eh w T L where
  len := by have := h.len; simpa using this
  wid := fun r hr => h.wid r (.tail _ hr)
  up := fun i j a b hij ha hb => h.up (i + 1) (j + 1) a b (by omega) ha hb
  zero := fun i q j e hj => h.zero (i + 1) q j e hj
  pos := fun i q e => h.pos (i + 1) q e
theorem Eh.above {w q : Nat} {s : Row} {T : Mat} {L : List Nat} (h : Eh w (s :: T) (q :: L)) : ∀ p ∈ L, q < p := fun p hp => by
  obtain ⟨i, hi, e⟩ := List.getElem_of_mem hp
  exact h.up 0 (i + 1) q p (by omega) rfl (by show L[i]? = some p; rw [List.getElem?_eq_getElem hi, e])
theorem eh_zero {w q : Nat} {T : Mat} {L : List Nat} (h : Eh w T L) (hL : ∀ p ∈ L, q ≤ p) {v : Row} (hv : Spn w T v) : ∀ j, j < q → at0 v j = 0 :=
  span_lead0 h.wid (fun i j hj => by
    by_cases hi : i < T.length
    · have hi2 : i < L.length := by rw [← h.len]; exact hi
      exact h.zero i L[i] j (List.getElem?_eq_getElem hi2) (Nat.lt_of_lt_of_le hj (hL _ (List.getElem_mem hi2)))
    · exact ent_out (by omega)) hv
theorem eh_nil {w : Nat} {v : Row} (hv : Spn w [] v) (i : Nat) : at0 v i = 0 := by
  refine hv.all (T := fun v => at0 v i = 0) (fun r hr => by cases hr) at0_zr fun v r k hl hr ih => by cases hr
theorem eh_leads {w : Nat} : ∀ {S S' : Mat} {L L' : List Nat}, Eh w S L → Eh w S' L' → (∀ v, Spn w S v ↔ Spn w S' v) → L = L' ∧ ∀ i q, L[i]? = some q → ent S i q = ent S' i q
  | [], S', L, L', h, h', k => by
    have e1 : L = [] := List.eq_nil_of_length_eq_zero (by have := h.len; simpa using this.symm)
    subst e1
    match S', L', h' with
    | [], L', h' =>
      have e2 : L' = [] := List.eq_nil_of_length_eq_zero (by have := h'.len; simpa using this.symm)
      subst e2
      exact ⟨rfl, fun i q e => by simp at e⟩
    | s' :: T', [], h' => have := h'.len; simp at this
    | s' :: T', q' :: L', h' =>
      have h1 : 0 < at0 s' q' := h'.pos 0 q' rfl
      have h2 := eh_nil ((k s').mpr (.mem h'.wid (.head _))) q'
      omega
  | s :: T, S', [], L', h, _, _ => by have := h.len; simp at this
  | s :: T, [], q :: L, L', h, h', k => by
    have h1 : 0 < at0 s q := h.pos 0 q rfl
    have h2 := eh_nil ((k s).mp (.mem h.wid (.head _))) q
    omega
  | s :: T, s' :: T', q :: L, [], _, h', _ => by have := h'.len; simp at this
  | s :: T, s' :: T', q :: L, q' :: L', h, h', k => by
    have ms : Spn w (s :: T) s := .mem h.wid (.head _)
    have ms' : Spn w (s' :: T') s' := .mem h'.wid (.head _)
    have p0 : 0 < at0 s q := h.pos 0 q rfl
    have p0' : 0 < at0 s' q' := h'.pos 0 q' rfl
    have ls := h.wid s (.head _)
    have ls' := h'.wid s' (.head _)
    have lo : ∀ p ∈ q :: L, q ≤ p := fun p hp => by
      rcases List.mem_cons.mp hp with e | e
      · omega
      · exact Nat.le_of_lt (h.above p e)
    have lo' : ∀ p ∈ q' :: L', q' ≤ p := fun p hp => by
      rcases List.mem_cons.mp hp with e | e
      · omega
      · exact Nat.le_of_lt (h'.above p e)
    have eq : q = q' := by
      rcases Nat.lt_trichotomy q q' with e | e | e
      · have := eh_zero h' lo' ((k s).mp ms) q e
        omega
      · exact e
      · have := eh_zero h lo ((k s').mpr ms') q' e
        omega
    subst eq
    have tz : ∀ v, Spn w T v → at0 v q = 0 := fun v hv => eh_zero h.tail (q := q + 1) (fun p hp => h.above p hp) hv q (by omega)
    have tz' : ∀ v, Spn w T' v → at0 v q = 0 := fun v hv => eh_zero h'.tail (q := q + 1) (fun p hp => h'.above p hp) hv q (by omega)
    have cut : ∀ {s : Row} {T : Mat}, Wid w (s :: T) → s.length = w → 0 < at0 s q → (∀ v, Spn w T v → at0 v q = 0) → ∀ v, Spn w (s :: T) v → at0 v q = 0 → Spn w T v := fun {s T} hw ls p0 tz v hv e => by
      obtain ⟨c, hc⟩ := span_dec hw hv
      have e0 := tz _ hc
      rw [at0_less (by rw [hv.len, ls]), e] at e0
      have : c = 0 := by
        have e1 : c * at0 s q = 0 := by omega
        rcases Int.mul_eq_zero.mp e1 with z | z
        · exact z
        · omega
      rw [this, less_zero (by rw [hv.len, ls])] at hc
      exact hc
    obtain ⟨e1, e2⟩ := eh_leads h.tail h'.tail fun v => ⟨fun hv => cut h'.wid ls' p0' tz' v ((k v).mp (span_cons hv)) (tz v hv), fun hv => cut h.wid ls p0 tz v ((k v).mpr (span_cons hv)) (tz' v hv)⟩
    subst e1
    have piv : at0 s q = at0 s' q := by
      obtain ⟨c, hc⟩ := span_dec h'.wid ((k s).mp ms)
      obtain ⟨d, hd⟩ := span_dec h.wid ((k s').mpr ms')
      have e1 := tz' _ hc
      have e2 := tz _ hd
      rw [at0_less (by rw [ls, ls'])] at e1 e2
      have e3 : at0 s q = c * at0 s' q := by omega
      have e4 : at0 s' q = d * at0 s q := by omega
      have c1 : 1 ≤ c := by
        refine Decidable.byContradiction fun z => ?_
        have : c * at0 s' q ≤ 0 := Int.mul_nonpos_of_nonpos_of_nonneg (by omega) (by omega)
        omega
      have d1 : 1 ≤ d := by
        refine Decidable.byContradiction fun z => ?_
        have : d * at0 s q ≤ 0 := Int.mul_nonpos_of_nonpos_of_nonneg (by omega) (by omega)
        omega
      have f1 : 1 * at0 s' q ≤ c * at0 s' q := Int.mul_le_mul_of_nonneg_right c1 (by omega)
      have f2 : 1 * at0 s q ≤ d * at0 s q := Int.mul_le_mul_of_nonneg_right d1 (by omega)
      omega
    refine ⟨rfl, fun i p e => ?_⟩
    cases i with
    | zero => cases e; exact piv
    | succ i => exact e2 i p e
end G
end
section
set_option linter.all false
set_option maxRecDepth 10000
namespace G
/-! ### amounts of stairs, classes -/
def coorF (S : Mat) (x : Row) (i : Nat) : Int := (at0 (redF S x i) (leadPl (S.getD i []))).fdiv (at0 (S.getD i []) (leadPl (S.getD i [])))
def coor (S : Mat) (x : Row) : Row := (List.range S.length).map (coorF S x)
theorem coor_at {S : Mat} {x : Row} {i : Nat} (h : i < S.length) : at0 (coor S x) i = coorF S x i := by
  unfold coor
  rw [at0_map_range, if_pos h]
theorem coor_mix {w : Nat} {S : Mat} {x : Row} (hS : Wid w S) (hx : x.length = w) : ∀ n, n ≤ S.length → ∀ j, at0 x j - at0 (redF S x n) j = sumTo n fun i => at0 (coor S x) i * ent S i j
  | 0, _, j => by
    rw [redF_zero]
    show at0 x j - at0 x j = 0
    omega
  | n + 1, h, j => by
    have ih := coor_mix hS hx n (by omega) j
    have h1 := (red_span hS hx n (by omega)).1
    have hs := hS.get (i := n) (by omega)
    show _ = sumTo n _ + at0 (coor S x) n * ent S n j
    rw [← ih, coor_at (by omega), redF_succ (by omega)]
    unfold redStep
    rw [at0_lsd (by omega)]
    show at0 x j - (at0 (redF S x n) j - coorF S x n * ent S n j) = _
    omega
theorem red_in {w : Nat} {S : Mat} {L : List Nat} {x : Row} (h : Hs w S L) (hx : Spn w S x) (j : Nat) : at0 (red S x) j = 0 := by
  obtain ⟨h1, h2⟩ := red_span h.wid hx.len S.length (Nat.le_refl _)
  rw [redF_all] at h1 h2
  have lx := hx.len
  have e : less x 1 (less x 1 (red S x)) = red S x := row_ext (by rw [less_length]; omega) fun i => by
    rw [at0_less (by rw [less_length]), at0_less (by omega)]
    omega
  have h3 := hx.less h.wid h2 1
  rw [e] at h3
  refine span_small h h3 (fun i q hq => ?_) j
  have hi : i < S.length := by rw [h.len]; exact (List.getElem?_eq_some_iff.mp hq).1
  have := red_small h lx _ (Nat.le_refl _) i q hi hq
  rw [redF_all] at this
  omega
theorem mix_at {c : Row} {Y : Mat} {w j : Nat} : at0 (mixM c Y w) j = if j < w then sumTo Y.length fun i => at0 c i * ent Y i j else 0 := by
  unfold mixM
  rw [at0_map_range]
theorem mix_length {c : Row} {Y : Mat} {w : Nat} : (mixM c Y w).length = w := by simp [mixM]
theorem coor_ok {w : Nat} {S : Mat} {L : List Nat} {x : Row} (h : Hs w S L) (hx : Spn w S x) : mixM (coor S x) S w = x := row_ext (by rw [mix_length, hx.len]) fun j => by
  rw [mix_at]
  split
  · have := coor_mix h.wid hx.len S.length (Nat.le_refl _) j
    rw [redF_all, red_in h hx j] at this
    omega
  · rw [at0_out (by rw [hx.len]; omega)]
theorem mix_zero {Y : Mat} {w r : Nat} : mixM (zr r) Y w = zr w := row_ext (by rw [mix_length, zr_length]) fun j => by
  rw [mix_at, at0_zr]
  split
  · rw [sumTo_congr (g := fun _ => 0) fun i _ => by rw [at0_zr, Int.zero_mul], sumTo_zero]
  · rfl
theorem mix_less {Y : Mat} {w : Nat} {c d : Row} {k : Int} (h : c.length = d.length) : mixM (less c k d) Y w = less (mixM c Y w) k (mixM d Y w) := row_ext (by rw [less_length, mix_length, mix_length]) fun j => by
  rw [at0_less (by rw [mix_length, mix_length]), mix_at, mix_at, mix_at]
  split
  · rw [← sumTo_lin]
    exact sumTo_congr fun i _ => by rw [at0_less h, Int.sub_mul, Int.mul_assoc]
  · simp
theorem span_mix {w r : Nat} {Y A : Mat} (hA : Wid r A) {c : Row} (hc : Spn r A c) : Spn w (A.map fun a => mixM a Y w) (mixM c Y w) := by
  induction hc with
  | zero => rw [mix_zero]; exact .zero
  | step k h1 h2 ih =>
    rw [mix_less (by rw [h1.len, hA _ h2])]
    exact ih.step k (List.mem_map.mpr ⟨_, h2, rfl⟩)
theorem span_mixed {w r : Nat} {Y A : Mat} (hA : Wid r A) {v : Row} (hv : Spn w (A.map fun a => mixM a Y w) v) : ∃ c, Spn r A c ∧ v = mixM c Y w := by
  induction hv with
  | zero => exact ⟨zr r, .zero, mix_zero.symm⟩
  | step k h1 h2 ih =>
    obtain ⟨c, hc, rfl⟩ := ih
    obtain ⟨a, ha, rfl⟩ := List.mem_map.mp h2
    exact ⟨less c k a, hc.step k ha, (mix_less (by rw [hc.len, hA a ha])).symm⟩
theorem sumTo_single {n p : Nat} {f : Nat → Int} (hp : p < n) (h : ∀ i, i < n → i ≠ p → f i = 0) : sumTo n f = f p := by
  rw [sumTo_congr (g := fun i => (if i = p then 1 else 0) * f i) fun i hi => by
    by_cases e : i = p
    · rw [if_pos e, Int.one_mul]
    · rw [if_neg e, h i hi e, Int.zero_mul]]
  exact sumTo_one hp
section
variable {w : Nat} {Y T : Mat} {LY LT : List Nat}
theorem ent_mix {i j : Nat} (hi : i < T.length) (hj : j < w) : ent (T.map fun a => mixM a Y w) i j = sumTo Y.length fun k => ent T i k * ent Y k j := by
  rw [ent_map hi, mix_at, if_pos hj]
  rfl
theorem eh_mix (hY : Hs w Y LY) (hT : Hs Y.length T LT) : Eh w (T.map fun a => mixM a Y w) (LT.map fun k => LY.getD k 0) ∧ ∀ (i k q : Nat), LT[i]? = some k → LY[k]? = some q → ent (T.map fun a => mixM a Y w) i q = ent T i k * ent Y k q := by
  have get : ∀ {i q}, (LT.map fun k => LY.getD k 0)[i]? = some q → ∃ k, LT[i]? = some k ∧ LY[k]? = some q := fun {i q} h => by
    rw [List.getElem?_map] at h
    cases e : LT[i]? with
    | none => rw [e] at h; cases h
    | some k =>
      rw [e] at h
      have hk := hT.lt i k e
      rw [hY.len] at hk
      injection h with h
      refine ⟨k, e, ?_⟩
      dsimp only at h
      rw [List.getD_eq_getElem?_getD, List.getElem?_eq_getElem hk] at h
      rw [List.getElem?_eq_getElem hk]
      exact congrArg some h
  have below : ∀ {i k q j m : Nat}, LT[i]? = some k → LY[k]? = some q → j ≤ q → m < Y.length → (m ≠ k ∨ j < q) → ent T i m * ent Y m j = 0 := fun {i k q j m} e1 e2 hj hm hd => by
    by_cases z : m < k
    · rw [hT.zero i k m e1 z, Int.zero_mul]
    · have hm2 : m < LY.length := by rw [← hY.len]; exact hm
      have e3 : LY[m]? = some LY[m] := List.getElem?_eq_getElem hm2
      have : j < LY[m] := by
        by_cases y : m = k
        · subst y
          rw [e2] at e3
          cases e3
          rcases hd with hd | hd
          · exact absurd rfl hd
          · exact hd
        · have := hY.up k m q LY[m] (by omega) e2 e3
          omega
      rw [hY.zero m _ j e3 this, Int.mul_zero]
  have val : ∀ (i k q : Nat), LT[i]? = some k → LY[k]? = some q → ent (T.map fun a => mixM a Y w) i q = ent T i k * ent Y k q := fun i k q e1 e2 => by
    have hi : i < T.length := by rw [hT.len]; exact (List.getElem?_eq_some_iff.mp e1).1
    have hk := hT.lt i k e1
    rw [ent_mix hi (hY.lt k q e2), sumTo_single hk fun m hm hd => below e1 e2 (Nat.le_refl _) hm (.inl hd)]
  refine ⟨⟨by simp [hT.len], fun r hr => ?_, fun i j a b hij ha hb => ?_, fun i q j e hj => ?_, fun i q e => ?_⟩, val⟩
  · obtain ⟨c, _, rfl⟩ := List.mem_map.mp hr
    exact mix_length
  · obtain ⟨k, k1, k2⟩ := get ha
    obtain ⟨m, m1, m2⟩ := get hb
    exact hY.up k m a b (hT.up i j k m hij k1 m1) k2 m2
  · obtain ⟨k, k1, k2⟩ := get e
    have hi : i < T.length := by rw [hT.len]; exact (List.getElem?_eq_some_iff.mp k1).1
    have hq := hY.lt k q k2
    rw [ent_mix hi (by omega), sumTo_congr (g := fun _ => 0) fun m hm => below k1 k2 (by omega) hm (.inr hj), sumTo_zero]
  · obtain ⟨k, k1, k2⟩ := get e
    rw [val i k q k1 k2]
    exact Int.mul_pos (hT.pos i k k1) (hY.pos k q k2)
end
/-- a list that climbs below its length is 0, 1, 2 .. -/
theorem climb {n : Nat} {L : List Nat} (hl : L.length = n) (hlt : ∀ (i q : Nat), L[i]? = some q → q < n) (hup : ∀ (i j a b : Nat), i < j → L[i]? = some a → L[j]? = some b → a < b) : ∀ i, i < n → L[i]? = some i := by
  have lo : ∀ (i q : Nat), L[i]? = some q → i ≤ q := fun i => by
    induction i with
    | zero => intro q _; omega
    | succ i ih =>
      intro q e
      have hi := (List.getElem?_eq_some_iff.mp e).1
      have e2 : L[i]? = some L[i] := List.getElem?_eq_getElem (by omega)
      have := ih _ e2
      have := hup i (i + 1) _ _ (by omega) e2 e
      omega
  have hi : ∀ (d i q : Nat), i + d + 1 = n → L[i]? = some q → q + d + 1 ≤ n := fun d => by
    induction d with
    | zero => intro i q _ e; have := hlt i q e; omega
    | succ d ih =>
      intro i q h e
      have e2 : L[i + 1]? = some L[i + 1] := List.getElem?_eq_getElem (by omega)
      have := ih (i + 1) _ (by omega) e2
      have := hup i (i + 1) _ _ (by omega) e e2
      omega
  intro i h
  have e : L[i]? = some L[i] := List.getElem?_eq_getElem (by omega)
  have h1 := lo i _ e
  have h2 := hi (n - i - 1) i _ (by omega) e
  rw [e]
  congr 1
  omega
def prodTo : Nat → (Nat → Int) → Int
  | 0, _ => 1
  | n + 1, f => prodTo n f * f n
theorem prodTo_congr {n : Nat} {f g : Nat → Int} (h : ∀ i, i < n → f i = g i) : prodTo n f = prodTo n g := by
  induction n with
  | zero => rfl
  | succ n ih => unfold prodTo; rw [ih fun i hi => h i (by omega), h n (by omega)]
theorem prodTo_mul {n : Nat} {f g : Nat → Int} : prodTo n (fun i => f i * g i) = prodTo n f * prodTo n g := by
  induction n with
  | zero => rfl
  | succ n ih =>
    show prodTo n (fun i => f i * g i) * (f n * g n) = prodTo n f * f n * (prodTo n g * g n)
    rw [ih, Int.mul_assoc, Int.mul_assoc, ← Int.mul_assoc (prodTo n g), Int.mul_comm (prodTo n g) (f n), Int.mul_assoc]
theorem prodTo_pos {n : Nat} {f : Nat → Int} (h : ∀ i, i < n → 0 < f i) : 0 < prodTo n f := by
  induction n with
  | zero => exact Int.one_pos
  | succ n ih => exact Int.mul_pos (ih fun i hi => h i (by omega)) (h n (by omega))
/-- the product of the leads -/
def ldF (S : Mat) (i : Nat) : Int := ent S i (leadPl (S.getD i []))
def lds (S : Mat) : Int := prodTo S.length (ldF S)
theorem ld_pos {w : Nat} {S : Mat} {L : List Nat} (h : Hs w S L) {i : Nat} (hi : i < S.length) : 0 < ldF S i ∧ L[i]? = some (leadPl (S.getD i [])) := by
  obtain ⟨q, _, hq, e⟩ := h.lead hi
  unfold ldF
  rw [leadPl_eq hq]
  exact ⟨h.pos i q e, e⟩
def stepsOf (Y M : Mat) : Mat := stairs (M.map (coor Y)) Y.length
theorem coor_wid {Y M : Mat} : Wid Y.length (M.map (coor Y)) := fun r hr => by
  obtain ⟨x, _, rfl⟩ := List.mem_map.mp hr
  simp [coor]
theorem classes_ok {w : Nat} {Y M : Mat} {LY LM : List Nat} (hY : Hs w Y LY) (hM : Hs w M LM) (hl : M.length = Y.length) (hin : ∀ r ∈ M, Spn w Y r) :
    (stepsOf Y M).length = Y.length ∧ lds M = prodTo Y.length (fun i => ent (stepsOf Y M) i i) * lds Y := by
  obtain ⟨LT, hT⟩ := stairs_hs (coor_wid (Y := Y) (M := M))
  obtain ⟨he, hv⟩ := eh_mix hY hT
  have back : (M.map (coor Y)).map (fun a => mixM a Y w) = M := by
    rw [List.map_map]
    exact (List.map_congr_left fun x hx => coor_ok hY (hin x hx)).trans (List.map_id M)
  have span : ∀ v, Spn w ((stairs (M.map (coor Y)) Y.length).map fun a => mixM a Y w) v ↔ Spn w M v := fun v => by
    constructor
    · intro h
      obtain ⟨c, hc, rfl⟩ := span_mixed hT.wid h
      have := span_mix (w := w) (Y := Y) coor_wid ((stairs_span coor_wid c).mp hc)
      rw [back] at this
      exact this
    · intro h
      rw [← back] at h
      obtain ⟨c, hc, rfl⟩ := span_mixed coor_wid h
      exact span_mix hT.wid ((stairs_span coor_wid c).mpr hc)
  obtain ⟨eL, eV⟩ := eh_leads he hM.eh span
  have lT : (stepsOf Y M).length = Y.length := by
    have := he.len
    rw [List.length_map, eL, ← hM.len, hl] at this
    exact this
  refine ⟨lT, ?_⟩
  have hLT : LT.length = Y.length := by rw [← hT.len]; exact lT
  have cl := climb hLT hT.lt hT.up
  unfold lds
  rw [hl, ← prodTo_mul]
  refine prodTo_congr fun i hi => ?_
  obtain ⟨_, y2⟩ := ld_pos hY hi
  obtain ⟨_, m2⟩ := ld_pos hM (i := i) (by omega)
  have c1 := cl i hi
  have e1 : (LT.map fun k => LY.getD k 0)[i]? = some (leadPl (M.getD i [])) := by rw [eL]; exact m2
  have e2 : leadPl (M.getD i []) = leadPl (Y.getD i []) := by
    rw [List.getElem?_map, c1] at e1
    injection e1 with e1
    rw [← e1]
    show LY.getD i 0 = _
    rw [List.getD_eq_getElem?_getD (l := LY), y2]
    rfl
  have e3 := eV i _ e1
  have e4 := hv i i _ c1 y2
  unfold ldF
  rw [← e3, e2]
  exact e4
end G
end
section
set_option linter.all false
set_option maxRecDepth 10000
namespace G
/-! ### sizes: at the last place nothing grows -/
theorem pull_last {w p b : Nat} {m : Mat} (hw : Wid w m) (hz : ∀ i j, j < p → ent m i j = 0) (hp : p + 1 = w) (h : Le (2 ^ b) m) {r : Row} {m' : Mat} (e : pull m p = (some r, m')) : RB (2 ^ b) r := by
  rcases pull_cases (w := w) (p := p) (P := fun m => Le (2 ^ b) m ∧ ∀ i j, j < p → ent m i j = 0) (fun m b' h1 h2 h3 _ => by
    have hb := (lb_some h3).1
    refine ⟨fun i q => ?_, fun i q hq => ?_⟩
    · by_cases e1 : q = p
      · subst e1
        have := (rnd_col h1 h3 i).1
        unfold meas at this
        rw [h3] at this
        exact Nat.le_trans this (h2.1 b' q)
      · by_cases e2 : q < p
        · rw [ent_rnd' h1 hb, h2.2 i q e2, h2.2 b' q e2]
          split <;> simp
        · have hlen : ((rnd m p b').getD i []).length ≤ q := by
            by_cases hi : i < (rnd m p b').length
            · rw [(rnd_wid h1).get hi]
              omega
            · rw [List.getD_eq_getElem?_getD, List.getElem?_eq_none (by omega)]
              exact Nat.zero_le _
          unfold ent
          rw [at0_out hlen]
          exact Nat.zero_le _
    · rw [ent_rnd' h1 hb, h2.2 i q hq, h2.2 b' q hq]
      split <;> simp) _ m (Nat.lt_succ_self _) hw ⟨h, hz⟩ with ⟨q, _⟩ | ⟨m1, b1, h1, h2, hP, h3, h4, q⟩
  · rw [q] at e
    cases e
  · rw [q] at e
    cases e
    have hb := (lb_some h3).1
    intro j
    rw [at0_norm]
    exact hP.1 b1 j
theorem stairs_last {n b : Nat} {m : Mat} (hw : Wid (n + 1) m) (hb : Le (2 ^ b) m) : Le (2 ^ (sbit b n + lbit b n + 1)) (stairs m (n + 1)) := by
  obtain ⟨h1, h2, h3, h4, _⟩ := stF_inv hw hb n
  obtain ⟨L, q⟩ := sts hw n (Nat.le_succ n)
  unfold stairs
  rw [stF_succ]
  unfold stStep
  cases e : pull (stF m n).2 n with
  | mk o l =>
    cases o with
    | none => exact h3.mono (by omega)
    | some r =>
      have hr := pull_last h2 q.z rfl h4 e
      have lr := (pull_some h2 e).1
      refine le_iff.mpr fun x hx => ?_
      rcases List.mem_append.mp hx with z | z
      · obtain ⟨y, hy, rfl⟩ := List.mem_map.mp z
        exact rb_lsd (by rw [h1 y hy, lr]) (le_iff.mp h3 y hy) hr
      · rw [List.mem_singleton.mp z]
        exact hr.mono (by omega)
/-- normal rows of width at most 4 -/
theorem normal_size {w : Nat} {m : Mat} (hw : Wid w m) (h4 : w ≤ 4) (hb : Le (2 ^ 20) m) : Le (2 ^ 3108) (stairs m w) := by
  match w, h4, hw with
  | 0, _, _ =>
    intro i j
    have e : stairs m 0 = [] := rfl
    rw [e, ent_out (Nat.zero_le _)]
    exact Nat.zero_le _
  | 1, _, hw => exact (stairs_last hw hb).mono (by decide)
  | 2, _, hw => exact (stairs_last hw hb).mono (by decide)
  | 3, _, hw => exact (stairs_last hw hb).mono (by decide)
  | 4, _, hw => exact (stairs_last hw hb).mono (by decide)
  | w + 5, h, _ => omega
theorem sumTo_abs {X : Nat} {f : Nat → Int} : ∀ {n : Nat}, (∀ i, i < n → (f i).natAbs ≤ X) → (sumTo n f).natAbs ≤ n * X
  | 0, _ => by simp [sumTo]
  | n + 1, h => by
    have ih := sumTo_abs (n := n) fun i hi => h i (by omega)
    have := h n (by omega)
    show (sumTo n f + f n).natAbs ≤ _
    have e : (n + 1) * X = n * X + X := Nat.succ_mul n X
    omega
/-- small weights -/
def Ws (W : Mat) : Prop := ∀ i j, (ent W i j).natAbs ≤ 4
theorem dot_abs {b : Nat} {u r : Row} (hu : ∀ i, (at0 u i).natAbs ≤ 4) (hr : RB (2 ^ b) r) (hl : r.length ≤ 4) : (dot u r).natAbs ≤ 2 ^ (b + 4) := by
  unfold dot
  have h1 := sumTo_abs (n := r.length) (X := 4 * 2 ^ b) (f := fun i => at0 u i * at0 r i) fun i _ => by
    rw [Int.natAbs_mul]
    exact Nat.mul_le_mul (hu i) (hr i)
  have h2 : r.length * (4 * 2 ^ b) ≤ 4 * (4 * 2 ^ b) := Nat.mul_le_mul_right _ hl
  have e : 2 ^ (b + 4) = 4 * (4 * 2 ^ b) := by rw [Nat.pow_add]; omega
  omega
theorem shows_size {w b : Nat} {A W : Mat} (hA : Wid w A) (h4 : w ≤ 4) (hW : Ws W) (hb : Le (2 ^ b) A) : Le (2 ^ (b + 4)) (shows A W) := le_iff.mpr fun r hr j => by
  obtain ⟨s, hs, rfl⟩ := List.mem_map.mp hr
  have hs2 := le_iff.mp hb s hs
  rw [at0_show]
  split
  · exact dot_abs (fun i => hW j i) hs2 (by rw [hA s hs]; exact h4)
  · exact Nat.le_trans (hs2 _) (Nat.pow_le_pow_right (by decide) (by omega))
theorem drp_size {n b : Nat} {A : Mat} (h : Le (2 ^ b) A) : Le (2 ^ b) (drp n A) := le_iff.mpr fun r hr j => by
  obtain ⟨s, hs, rfl⟩ := List.mem_map.mp hr
  rw [at0_drop]
  exact le_iff.mp h s hs _
/-- what the cut's stairs are taken of -/
theorem cutR_size {w : Nat} {A W : Mat} (hA : Wid w A) (h4 : w ≤ 4) (hW : Ws W) (hn : W.length ≤ 3) (hb : Le (2 ^ 3108) A) : Le (2 ^ 199231) (cutR A W) := by
  have hs := shows_size hA h4 hW hb
  obtain ⟨_, _, _, h, _⟩ := stF_inv (shows_wid (W := W) hA) hs W.length
  have hm := lbit_mono (3108 + 4) hn
  have e : lbit (3108 + 4) 3 = 199231 := by decide
  exact drp_size (h.mono (by omega))
theorem lb_cut1 {n : Nat} (hn : n ≤ 3) : ∀ k, k < n → lbit 3112 k ≤ 14000000 := fun k hk => by
  have hm := lbit_mono 3112 (n := k) (k := 3) (by omega)
  have e : lbit 3112 3 = 199231 := by decide
  omega
theorem lb_cut2 {w : Nat} (hw : w ≤ 4) : ∀ k, k < w → lbit 199231 k ≤ 14000000 := fun k hk => by
  have hm := lbit_mono 199231 (n := k) (k := 3) (by omega)
  have e : lbit 199231 3 = 12750847 := by decide
  omega
/-- amounts of normal rows -/
theorem coor_size {w : Nat} {Y : Mat} {x : Row} (hY : Wid w Y) (hx : x.length = w) (h4 : Y.length ≤ 4) (hb : Le (2 ^ 3108) Y) (hr : RB (2 ^ 3108) x) : RB (2 ^ 15544) (coor Y x) := fun j => by
  by_cases hj : j < Y.length
  · rw [coor_at hj]
    unfold coorF
    refine Nat.le_trans (fdiv_abs _ _) ?_
    have := (redF_inv hY hx hb hr j (by omega)).2 (leadPl (Y.getD j []))
    refine Nat.le_trans this (Nat.pow_le_pow_right (by decide) ?_)
    omega
  · rw [at0_out (by simp [coor]; omega)]
    exact Nat.zero_le _
end G
end
section
set_option linter.all false
set_option maxRecDepth 10000
namespace G
/-! ### rows that are normal already -/
/-- at most one row is busy at the place -/
def Solo (m : Mat) (p : Nat) : Prop := ∀ i j, ent m i p ≠ 0 → ent m j p ≠ 0 → i = j
def Ok1 (b : Nat) (m : Mat) (p : Nat) : Prop := PB (2 ^ b) m p ∨ Solo m p
theorem Solo.clean {m : Mat} {p b : Nat} (h : Solo m p) (e : lb m p = some b) : Clean m p b := fun i hi hn => by
  refine Decidable.byContradiction fun z => hn (h i b z (lb_some e).2.1)
theorem Ok1.step {b w p b2 : Nat} {m : Mat} (h : Ok1 b m p) (hw : Wid w m) (e : lb m p = some b2) : (∀ i, i ≠ b2 → ent m i p ≠ 0 → Le (3 * (2 ^ b) ^ 4) m) ∧ (¬ Clean (rnd m p b2) p b2 → Ok1 b (rnd m p b2) p) := by
  rcases h with h | h
  · obtain ⟨a1, _, a3⟩ := h.step (Nat.pow_pos (by decide)) hw e
    exact ⟨fun _ _ _ => a1, fun z => .inl (a3 z)⟩
  · have hc := h.clean e
    refine ⟨fun i hn hz => absurd (h i b2 hz (lb_some e).2.1) hn, fun z => absurd ?_ z⟩
    rw [rnd_alone hc]
    exact hc
theorem Solo.bz {m : Mat} {p : Nat} (h : Solo m p) : (bz m p).length ≤ 1 := by
  have nd : (G.bz m p).Nodup := List.Pairwise.filter _ List.nodup_range
  match e : G.bz m p with
  | [] => simp
  | [a] => simp
  | a :: b :: t =>
    rw [e] at nd
    have ha : a ∈ G.bz m p := by rw [e]; exact .head _
    have hb : b ∈ G.bz m p := by rw [e]; exact .tail _ (.head _)
    have := h a b (mem_bz.mp ha).2 (mem_bz.mp hb).2
    subst this
    simp at nd
theorem ent_drop {m : Mat} {k i j : Nat} : ent (m.drop k) i j = ent m (k + i) j := by
  unfold ent
  rw [List.getD_eq_getElem?_getD, List.getElem?_drop, List.getD_eq_getElem?_getD]
theorem Hs.ex {w : Nat} {S : Mat} {L : List Nat} (h : Hs w S L) {i : Nat} (hi : i < S.length) : ∃ q, L[i]? = some q := by
  have hl : i < L.length := by rw [← h.len]; exact hi
  exact ⟨L[i], List.getElem?_eq_getElem hl⟩
/-- what a pull finds in the rows behind the leads -/
theorem pull_hs {w n k : Nat} {m : Mat} {L : List Nat} (h : Hs w m L) (hk : ∀ i q, L[i]? = some q → (q < n ↔ i < k)) : Solo (m.drop k) n ∧
    ((L[k]? = some n ∧ k < m.length ∧ pull (m.drop k) n = (some (m.getD k []), m.drop (k + 1))) ∨ ((∀ q, L[k]? = some q → q ≠ n) ∧ pull (m.drop k) n = (none, m.drop k))) := by
  have other : ∀ i, i ≠ 0 ∨ L[k]? ≠ some n → ent (m.drop k) i n = 0 := fun i hi => by
    rw [ent_drop]
    by_cases hl : k + i < m.length
    · obtain ⟨q, e⟩ := h.ex hl
      refine h.zero _ _ n e ?_
      have h1 := hk _ _ e
      by_cases z : i = 0
      · subst z
        rcases hi with hi | hi
        · omega
        · have : q ≠ n := fun y => hi (by rw [← y]; exact e)
          omega
      · obtain ⟨q0, e0⟩ := h.ex (i := k) (by omega)
        have h2 := hk _ _ e0
        have h3 := h.up k (k + i) _ _ (by omega) e0 e
        omega
    · exact ent_out (by omega)
  have solo : Solo (m.drop k) n := fun i j hi hj => by
    have a : i = 0 := Decidable.byContradiction fun z => hi (other i (.inl z))
    have b : j = 0 := Decidable.byContradiction fun z => hj (other j (.inl z))
    rw [a, b]
  refine ⟨solo, ?_⟩
  by_cases hn : L[k]? = some n
  · have hkm : k < m.length := by rw [h.len]; exact (List.getElem?_eq_some_iff.mp hn).1
    have hp := h.pos k n hn
    refine .inl ⟨hn, hkm, ?_⟩
    have hb : lb (m.drop k) n = some 0 := by
      cases e : lb (m.drop k) n with
      | none =>
        have := lb_none e 0
        rw [ent_drop] at this
        simp only [Nat.add_zero] at this
        omega
      | some c =>
        have := (lb_some e).2.1
        have : c = 0 := Decidable.byContradiction fun z => this (other c (.inl z))
        rw [this]
    have hc := solo.clean hb
    have hr := rnd_alone hc
    have := pull_clean hb (by rw [hr]; exact hc)
    rw [hr] at this
    rw [this]
    have e0 : (m.drop k).getD 0 [] = m.getD k [] := by
      rw [List.getD_eq_getElem?_getD, List.getElem?_drop, List.getD_eq_getElem?_getD]
      rfl
    have e1 : (m.drop k).eraseIdx 0 = m.drop (k + 1) := by
      rw [List.eraseIdx_zero, List.tail_drop]
    rw [e0, e1]
    congr 2
    unfold norm
    exact if_pos hp
  · refine .inr ⟨fun q e z => hn (by rw [e, z]), pull_none ?_⟩
    cases e : lb (m.drop k) n with
    | none => rfl
    | some c => exact absurd (other c (.inr hn)) (lb_some e).2.1
theorem stF_hs {w : Nat} {m : Mat} {L : List Nat} (h : Hs w m L) : ∀ n, ∃ k, k ≤ m.length ∧ stF m n = (m.take k, m.drop k) ∧ ∀ i q, L[i]? = some q → (q < n ↔ i < k)
  | 0 => ⟨0, Nat.zero_le _, rfl, fun i q _ => by omega⟩
  | n + 1 => by
    obtain ⟨k, h1, h2, h3⟩ := stF_hs h n
    obtain ⟨_, h4⟩ := pull_hs h h3
    rw [stF_succ, h2]
    unfold stStep
    rcases h4 with ⟨a1, a2, a3⟩ | ⟨a1, a2⟩
    · refine ⟨k + 1, a2, ?_, fun i q e => ?_⟩
      · dsimp only
        rw [a3]
        dsimp only
        congr 1
        have e1 : m.take (k + 1) = m.take k ++ [m.getD k []] := by
          rw [List.take_succ, List.getElem?_eq_getElem a2, List.getD_eq_getElem?_getD, List.getElem?_eq_getElem a2]
          rfl
        rw [e1]
        congr 1
        conv => rhs; rw [← List.map_id (m.take k)]
        refine List.map_congr_left fun r hr => ?_
        obtain ⟨i, hi, er⟩ := List.getElem_of_mem hr
        have hik : i < k := by rw [List.length_take] at hi; omega
        have eg : m.getD i [] = r := by
          rw [List.getD_eq_getElem?_getD, List.getElem?_eq_getElem (by omega)]
          rw [List.getElem_take] at er
          exact er
        have := h.red i k n hik a1
        unfold ent at this
        rw [eg] at this
        have lr := h.wid.get (i := i) (by omega)
        have lk := h.wid.get (i := k) a2
        rw [eg] at lr
        unfold lsd
        rw [Int.fdiv_eq_zero_of_lt this.1 this.2]
        exact less_zero (by omega)
      · have := h3 i q e
        by_cases z : i = k
        · subst z
          rw [a1] at e
          cases e
          omega
        · have e0 := a1
          constructor
          · intro hq
            refine Decidable.byContradiction fun y => ?_
            have := h.up k i n q (by omega) e0 e
            omega
          · intro hq
            have := this.mpr (by omega)
            omega
    · refine ⟨k, h1, by dsimp only; rw [a2], fun i q e => ?_⟩
      have := h3 i q e
      constructor
      · intro hq
        by_cases z : q = n
        · refine Decidable.byContradiction fun y => ?_
          have ik : i ≠ k := fun x => a1 q (by rw [← x]; exact e) z
          obtain ⟨q0, e0⟩ := h.ex (i := k) (by have := (List.getElem?_eq_some_iff.mp e).1; have := h.len; omega)
          have h5 := h.up k i _ q (by omega) e0 e
          have := (h3 k _ e0).mp (by omega)
          omega
        · exact this.mp (by omega)
      · intro hi
        have := this.mpr hi
        omega
/-- normal rows are their own stairs -/
theorem stairs_hs_id {w : Nat} {m : Mat} {L : List Nat} (h : Hs w m L) : stairs m w = m := by
  obtain ⟨k, h1, h2, h3⟩ := stF_hs h w
  unfold stairs
  rw [h2]
  have : k = m.length := by
    refine Decidable.byContradiction fun z => ?_
    obtain ⟨q0, e0⟩ := h.ex (i := k) (by omega)
    have := (h3 k _ e0).mp (h.lt _ _ e0)
    omega
  rw [this]
  exact List.take_length
end G
end
section
set_option Elab.async false
set_option linter.all false
set_option maxRecDepth 100000
namespace G
theorem mix_spn {w : Nat} {m : Mat} (hw : Wid w m) (a : Row) : Spn w m (mixM a m w) := by
  have h : ∀ n, n ≤ m.length → Spn w m ((List.range w).map fun j => sumTo n fun i => at0 a i * ent m i j) := by
    intro n
    induction n with
    | zero =>
      intro _
      have e : ((List.range w).map fun j => sumTo 0 fun i => at0 a i * ent m i j) = zr w := row_ext (by rw [zr_length]; simp) fun i => by
        rw [at0_map_range, at0_zr]
        split <;> rfl
      rw [e]
      exact .zero
    | succ n ih =>
      intro hn
      have e : ((List.range w).map fun j => sumTo (n + 1) fun i => at0 a i * ent m i j) = less ((List.range w).map fun j => sumTo n fun i => at0 a i * ent m i j) (-(at0 a n)) (m.getD n []) :=
        row_ext (by rw [less_length]; simp) fun i => by
          rw [at0_less (by rw [hw.get (by omega)]; simp), at0_map_range, at0_map_range]
          split
          · show sumTo n _ + at0 a n * ent m n i = _
            rw [Int.neg_mul, Int.sub_neg]
            rfl
          · rename_i h
            rw [at0_out (r := m.getD n []) (by rw [hw.get (by omega)]; omega)]
            simp
      rw [e]
      exact (ih (by omega)).less hw (.mem hw (getD_mem (by omega))) _
  exact h m.length (Nat.le_refl _)
/-! ### rows with one number each -/
def dgR (w : Nat) (c : Int) (i : Nat) : Row := (List.range w).map fun j => if j = i then c else 0
def DG (w : Nat) (c : Int) : Mat := (List.range w).map (dgR w c)
theorem dg_length {w : Nat} {c : Int} : (DG w c).length = w := by simp [DG]
theorem dg_get {w i : Nat} {c : Int} (h : i < w) : (DG w c).getD i [] = dgR w c i := by
  unfold DG
  rw [getD_map_range, if_pos h]
theorem dg_wid {w : Nat} {c : Int} : Wid w (DG w c) := fun r hr => by
  obtain ⟨i, _, rfl⟩ := List.mem_map.mp hr
  simp [dgR]
theorem dg_ent {w i j : Nat} {c : Int} (h : i < w) : ent (DG w c) i j = if j < w then (if j = i then c else 0) else 0 := by
  unfold ent
  rw [dg_get h]
  exact at0_map_range
theorem unit_eq {w i : Nat} : unitR w i = dgR w 1 i := rfl
theorem dg_hs {w : Nat} {c : Int} (hc : 0 < c) : Hs w (DG w c) (List.range w) where
  len := by rw [dg_length, List.length_range]
  wid := dg_wid
  up := fun i j a b h ha hb => by
    rw [range_get] at ha hb
    split at ha <;> split at hb <;> simp at ha hb
    omega
  lt := fun i q h => by
    rw [range_get] at h
    split at h <;> simp at h
    omega
  zero := fun i q j h hj => by
    rw [range_get] at h
    split at h <;> simp at h
    rw [dg_ent (by omega), if_pos (by omega), if_neg (by omega)]
  pos := fun i q h => by
    rw [range_get] at h
    split at h <;> simp at h
    rw [dg_ent (by omega), if_pos (by omega), if_pos (by omega)]
    exact hc
  red := fun i k q h hq => by
    rw [range_get] at hq
    split at hq <;> simp at hq
    rw [dg_ent (by omega), if_pos (by omega), if_neg (by omega), dg_ent (by omega), if_pos (by omega), if_pos (by omega)]
    exact ⟨Int.le_refl _, hc⟩
theorem dg_st {w : Nat} {c : Int} (hc : 0 < c) : stairs (DG w c) w = DG w c := stairs_hs_id (dg_hs hc)
theorem spn_unit {w : Nat} {r : Row} (h : r.length = w) : Spn w (DG w 1) r := by
  have e : mixM r (DG w 1) w = r := row_ext (by rw [mix_length, h]) fun j => by
    rw [mix_at, dg_length]
    split
    · rename_i hj
      rw [← sumTo_one (f := at0 r) hj]
      refine sumTo_congr fun i hi => ?_
      rw [dg_ent hi, if_pos hj, Int.mul_comm]
      by_cases z : i = j
      · rw [if_pos z, if_pos z.symm]
      · rw [if_neg z, if_neg (fun y => z y.symm)]
    · rw [at0_out (by omega)]
  have := mix_spn (dg_wid (w := w) (c := 1)) r
  rw [e] at this
  exact this
theorem dg_lds {w : Nat} {c : Int} (hc : 0 < c) : lds (DG w c) = prodTo w (fun _ => c) := by
  unfold lds
  rw [dg_length]
  refine prodTo_congr fun i hi => ?_
  obtain ⟨_, e⟩ := ld_pos (dg_hs hc) (i := i) (by rw [dg_length]; exact hi)
  rw [range_get, if_pos hi] at e
  injection e with e
  unfold ldF
  rw [← e, dg_ent hi, if_pos hi, if_pos rfl]
theorem prodTo_ones {n : Nat} : prodTo n (fun _ => 1) = 1 := by
  induction n with
  | zero => rfl
  | succ n ih => unfold prodTo; rw [ih]; rfl
theorem dg_classes {w : Nat} {c : Int} (hc : 0 < c) : prodTo w (fun i => ent (stepsOf (DG w 1) (DG w c)) i i) = prodTo w (fun _ => c) := by
  obtain ⟨_, h⟩ := classes_ok (dg_hs (w := w) (c := 1) (by decide)) (dg_hs (w := w) hc) (by rw [dg_length, dg_length]) fun r hr => spn_unit (dg_wid r hr)
  rw [dg_lds hc, dg_lds (by decide), prodTo_ones, Int.mul_one, dg_length] at h
  exact h.symm
/-- a lattice over itself has one class -/
theorem self_classes {w : Nat} {S : Mat} {L : List Nat} (h : Hs w S L) : prodTo S.length (fun i => ent (stepsOf S S) i i) = 1 := by
  obtain ⟨_, e⟩ := classes_ok h h rfl fun r hr => .mem h.wid hr
  have hp : 0 < lds S := prodTo_pos fun i hi => (ld_pos h hi).1
  have e2 : 1 * lds S = prodTo S.length (fun i => ent (stepsOf S S) i i) * lds S := by rw [Int.one_mul]; exact e
  exact (Int.eq_of_mul_eq_mul_right (by omega) e2).symm
theorem lds_pos {w : Nat} {S : Mat} {L : List Nat} (h : Hs w S L) : 0 < lds S := prodTo_pos fun i hi => (ld_pos h hi).1
theorem index_ok {w : Nat} {Y M : Mat} {LY LM : List Nat} (hY : Hs w Y LY) (hM : Hs w M LM) (hl : M.length = Y.length) (hin : ∀ r ∈ M, Spn w Y r) :
    (lds M).fdiv (lds Y) = prodTo Y.length (fun i => ent (stepsOf Y M) i i) := by
  obtain ⟨_, e⟩ := classes_ok hY hM hl hin
  have := lds_pos hY
  rw [e]
  exact Int.mul_fdiv_cancel _ (by omega)
/-! ### what is within -/
theorem isz_in {w : Nat} {A : Mat} (hA : Wid w A) {r : Row} (h : Spn w A r) : isz (red (stairs A w) r) = true := by
  obtain ⟨L, hL⟩ := stairs_hs hA
  exact isz_iff.mpr fun j => red_in hL ((stairs_span hA r).mpr h) j
theorem dvd_span {w : Nat} {c : Int} {v : Row} (h : Spn w (DG w c) v) (j : Nat) : c ∣ at0 v j := by
  refine Spn.all (T := fun v => c ∣ at0 v j) h dg_wid (by rw [at0_zr]; exact ⟨0, by simp⟩) fun v r k hv hr ht => ?_
  rw [at0_less (by rw [hv, dg_wid r hr])]
  obtain ⟨i, hi, rfl⟩ := List.mem_map.mp hr
  have : c ∣ at0 (dgR w c i) j := by
    unfold dgR
    rw [at0_map_range]
    split
    · split
      · exact ⟨1, by simp⟩
      · exact ⟨0, by simp⟩
    · exact ⟨0, by simp⟩
  obtain ⟨x, hx⟩ := ht
  obtain ⟨y, hy⟩ := this
  exact ⟨x - k * y, by rw [hx, hy, Int.mul_sub, Int.mul_left_comm]⟩
theorem left_same {w : Nat} {A B W : Mat} {y : Row} (hA : Wid w A) (hB : Wid w B) (h : ∀ v, Spn w A v ↔ Spn w B v) (hy : y.length = W.length) : isz ((leftOf A W w y).take W.length) = isz ((leftOf B W w y).take W.length) := by
  rw [Bool.eq_iff_iff, left_zero hA hy, left_zero hB hy]
  constructor
  · rintro ⟨u, h1, h2⟩
    exact ⟨u, (h u).mp h1, h2⟩
  · rintro ⟨u, h1, h2⟩
    exact ⟨u, (h u).mpr h1, h2⟩
theorem told_dots {w : Nat} {A W : Mat} {y : Row} (hA : Wid w A) (hy : y.length = W.length) (hz : isz ((leftOf A W w y).take W.length) = true) : (W.map fun u => dot u (toldOf A W w y)) = y := by
  obtain ⟨_, h⟩ := told_ok hA hy hz
  refine row_ext (by rw [List.length_map, hy]) fun i => ?_
  by_cases hi : i < W.length
  · rw [at0_map hi, h i hi]
  · rw [at0_out (by rw [List.length_map]; omega), at0_out (by omega)]
theorem told_len {w : Nat} {A W : Mat} {y : Row} (hA : Wid w A) (hy : y.length = W.length) : (toldOf A W w y).length = w := by
  obtain ⟨h, _⟩ := left_facts hA hy
  unfold toldOf
  rw [List.length_map, List.length_drop, h]
  omega
end G
end
section
set_option Elab.async false
set_option linter.all false
set_option maxRecDepth 100000
namespace G
/-! ### flows between classes: cuts are all that stands in the way -/
structure Edge where
  a : Nat
  b : Nat
  lo : Int
  hi : Int
abbrev Cut := Nat → Bool
def sS (k : Nat) (s : Nat → Int) (S : Cut) : Int := sumTo k fun i => if S i then s i else 0
def oI (c : Bool) (z : Int) : Int := if c then z else 0
def fE : List Edge → Cut → Int
  | [], _ => 0
  | e :: E, S => fE E S + oI (S e.b && !S e.a) e.hi - oI (S e.a && !S e.b) e.lo
def netE : List Edge → List Int → Nat → Int
  | e :: E, x :: X, i => netE E X i + x * (oI (decide (e.b = i)) 1 - oI (decide (e.a = i)) 1)
  | _, _, _ => 0
def Fits : List Edge → List Int → Prop
  | e :: E, x :: X => e.lo ≤ x ∧ x ≤ e.hi ∧ Fits E X
  | [], [] => True
  | _, _ => False
theorem sumTo_add {n : Nat} {f g : Nat → Int} : sumTo n (fun i => f i + g i) = sumTo n f + sumTo n g := by
  induction n with
  | zero => rfl
  | succ n ih => unfold sumTo; rw [ih]; dsimp only; omega
theorem sS_mod {k : Nat} {s : Nat → Int} {S T : Cut} : sS k s (fun i => S i || T i) + sS k s (fun i => S i && T i) = sS k s S + sS k s T := by
  unfold sS
  rw [← sumTo_add, ← sumTo_add]
  refine sumTo_congr fun i _ => ?_
  dsimp only
  by_cases hp : S i = true <;> by_cases hq : T i = true <;> simp [hp, hq]
theorem sS_not {k : Nat} {s : Nat → Int} {S : Cut} : sS k s (fun i => !S i) + sS k s S = sS k s (fun _ => true) := by
  unfold sS
  rw [← sumTo_add]
  refine sumTo_congr fun i _ => ?_
  dsimp only
  by_cases hp : S i = true <;> simp [hp]
theorem oI_le {c : Bool} {z : Int} : oI c z = if c then z else 0 := rfl
theorem fE_sub {E : List Edge} (h : ∀ e ∈ E, e.lo ≤ e.hi) {S T : Cut} : fE E (fun i => S i || T i) + fE E (fun i => S i && T i) ≤ fE E S + fE E T := by
  induction E with
  | nil => show (0 : Int) + 0 ≤ 0 + 0; omega
  | cons e E ih =>
    have h1 := h e (List.mem_cons_self ..)
    have h2 := ih fun x hx => h x (List.mem_cons_of_mem _ hx)
    unfold fE
    revert h2
    generalize fE E S = p
    generalize fE E T = q
    generalize fE E (fun i => S i || T i) = u
    generalize fE E (fun i => S i && T i) = v
    intro h2
    dsimp only
    generalize S e.a = c1
    generalize S e.b = c2
    generalize T e.a = c3
    generalize T e.b = c4
    cases c1 <;> cases c2 <;> cases c3 <;> cases c4 <;> simp [oI] <;> omega
/-- the least number from lo on with P -/
theorem least_from {P : Int → Prop} {lo : Int} : ∀ n : Nat, P (lo + n) → ∃ x, lo ≤ x ∧ x ≤ lo + n ∧ P x ∧ (x = lo ∨ ¬ P (x - 1))
  | 0, h => ⟨lo, Int.le_refl _, by omega, by simpa using h, .inl rfl⟩
  | n + 1, h => by
    by_cases q : P (lo + n)
    · obtain ⟨x, h1, h2, h3, h4⟩ := least_from n q
      exact ⟨x, h1, by omega, h3, h4⟩
    · exact ⟨lo + (n + 1 : Nat), by omega, by omega, h, .inr (by
        have e : lo + ((n + 1 : Nat) : Int) - 1 = lo + n := by omega
        rw [e]
        exact q)⟩
theorem sumTo_oI {k b : Nat} (h : b < k) {S : Cut} {z : Int} : sumTo k (fun i => if S i then z * oI (decide (b = i)) 1 else 0) = z * oI (S b) 1 := by
  rw [sumTo_single (p := b) h]
  · rw [decide_eq_true rfl]
    generalize S b = p
    cases p <;> simp [oI]
  · intro i _ hn
    rw [decide_eq_false (fun q => hn q.symm)]
    simp [oI]
theorem sS_less {k : Nat} {s : Nat → Int} {S : Cut} {a b : Nat} {x : Int} (ha : a < k) (hb : b < k) :
    sS k (fun i => s i - x * (oI (decide (b = i)) 1 - oI (decide (a = i)) 1)) S = sS k s S - x * (oI (S b) 1 - oI (S a) 1) := by
  have e : sS k (fun i => s i - x * (oI (decide (b = i)) 1 - oI (decide (a = i)) 1)) S = sS k s S - (sumTo k (fun i => if S i then x * oI (decide (b = i)) 1 else 0) - sumTo k (fun i => if S i then x * oI (decide (a = i)) 1 else 0)) := by
    unfold sS
    have := sumTo_lin (n := k) (f := fun i => if S i then x * oI (decide (b = i)) 1 else 0) (g := fun i => if S i then x * oI (decide (a = i)) 1 else 0) (k := 1)
    rw [Int.one_mul] at this
    rw [← this]
    have := sumTo_lin (n := k) (f := fun i => if S i then s i else 0) (g := fun i => (if S i then x * oI (decide (b = i)) 1 else 0) - 1 * (if S i then x * oI (decide (a = i)) 1 else 0)) (k := 1)
    rw [Int.one_mul] at this
    rw [← this]
    refine sumTo_congr fun i _ => ?_
    dsimp only
    generalize S i = p
    cases p
    · simp
    · simp [Int.mul_sub]
  rw [e, sumTo_oI hb, sumTo_oI ha, Int.mul_sub]
theorem hoffman {k : Nat} : ∀ (E : List Edge) (s : Nat → Int), (∀ e ∈ E, e.lo ≤ e.hi ∧ e.a < k ∧ e.b < k) → sS k s (fun _ => true) = 0 → (∀ S, sS k s S ≤ fE E S) →
    ∃ X, Fits E X ∧ ∀ i, i < k → netE E X i = s i
  | [], s, _, h0, hc => by
    refine ⟨[], trivial, fun i hi => ?_⟩
    have h1 := hc (fun j => decide (j = i))
    have h2 := hc (fun j => !decide (j = i))
    have h3 := sS_not (k := k) (s := s) (S := fun j => decide (j = i))
    have h4 : sS k s (fun j => decide (j = i)) = s i := by
      unfold sS
      rw [sumTo_single (p := i) hi]
      · simp
      · intro j _ hn
        simp [hn]
    have e : fE [] (fun j => decide (j = i)) = 0 := rfl
    have e2 : fE [] (fun j => !decide (j = i)) = 0 := rfl
    show (0 : Int) = s i
    omega
  | e :: E, s, he, h0, hc => by
    obtain ⟨hlh, hak, hbk⟩ := he e (List.mem_cons_self ..)
    have hE : ∀ e ∈ E, e.lo ≤ e.hi ∧ e.a < k ∧ e.b < k := fun x hx => he x (List.mem_cons_of_mem _ hx)
    have sub : ∀ S T : Cut, fE E (fun i => S i || T i) + fE E (fun i => S i && T i) ≤ fE E S + fE E T := fun S T => fE_sub fun x hx => (hE x hx).1
    -- x that serves
    have key : ∃ x, e.lo ≤ x ∧ x ≤ e.hi ∧ (∀ S : Cut, S e.b = true → S e.a = false → sS k s S - fE E S ≤ x) ∧ ∀ T : Cut, T e.a = true → T e.b = false → x ≤ fE E T - sS k s T := by
      have hhi : e.lo + ((e.hi - e.lo).toNat : Int) = e.hi := by omega
      have up : ∀ S : Cut, S e.b = true → S e.a = false → sS k s S - fE E S ≤ e.hi := fun S h1 h2 => by
        have := hc S
        unfold fE at this
        rw [h1, h2] at this
        simp [oI] at this
        omega
      have dn : ∀ T : Cut, T e.a = true → T e.b = false → e.lo ≤ fE E T - sS k s T := fun T h1 h2 => by
        have := hc T
        unfold fE at this
        rw [h1, h2] at this
        simp [oI] at this
        omega
      have same : ∀ S : Cut, S e.a = S e.b → sS k s S ≤ fE E S := fun S h1 => by
        have := hc S
        unfold fE at this
        rw [h1] at this
        cases q : S e.b <;> (rw [q] at this; simp [oI] at this; omega)
      obtain ⟨x, x1, x2, x3, x4⟩ := least_from (P := fun x => ∀ S : Cut, S e.b = true → S e.a = false → sS k s S - fE E S ≤ x) (lo := e.lo) (e.hi - e.lo).toNat (fun S h1 h2 => by rw [hhi]; exact up S h1 h2)
      refine ⟨x, x1, by omega, x3, fun T h1 h2 => ?_⟩
      rcases x4 with rfl | x4
      · exact dn T h1 h2
      · have : ∃ S : Cut, S e.b = true ∧ S e.a = false ∧ ¬ sS k s S - fE E S ≤ x - 1 := Classical.byContradiction fun q => x4 fun S a b => Classical.byContradiction fun z => q ⟨S, a, b, z⟩
        obtain ⟨S, a1, a2, a3⟩ := this
        have m := sS_mod (k := k) (s := s) (S := S) (T := T)
        have u1 := same (fun i => S i || T i) (by show (S e.a || T e.a) = (S e.b || T e.b); rw [a1, a2, h1, h2]; rfl)
        have u2 := same (fun i => S i && T i) (by show (S e.a && T e.a) = (S e.b && T e.b); rw [a1, a2, h1, h2]; rfl)
        have u3 := sub S T
        omega
    obtain ⟨x, x1, x2, x3, x4⟩ := key
    have h0' : sS k (fun i => s i - x * (oI (decide (e.b = i)) 1 - oI (decide (e.a = i)) 1)) (fun _ => true) = 0 := by
      rw [sS_less hak hbk, h0]
      simp [oI]
    obtain ⟨X, f1, f2⟩ := hoffman E (fun i => s i - x * (oI (decide (e.b = i)) 1 - oI (decide (e.a = i)) 1)) hE h0' fun S => by
      rw [sS_less hak hbk]
      have := hc S
      unfold fE at this
      cases p : S e.b <;> cases q : S e.a
      · rw [p, q] at this; simp [oI] at this ⊢; omega
      · have := x4 S q p; simp [oI]; omega
      · have := x3 S p q; simp [oI]; omega
      · rw [p, q] at this; simp [oI] at this ⊢; omega
    refine ⟨x :: X, ⟨x1, x2, f1⟩, fun i hi => ?_⟩
    unfold netE
    rw [f2 i hi]
    omega
/-- what flows keeps all cuts -/
theorem net_cut {k : Nat} : ∀ (E : List Edge) (X : List Int), (∀ e ∈ E, e.lo ≤ e.hi ∧ e.a < k ∧ e.b < k) → Fits E X → ∀ S, sS k (netE E X) S ≤ fE E S
  | [], [], _, _, S => by
    show sS k (fun _ => 0) S ≤ 0
    unfold sS
    have : sumTo k (fun i => if S i then (0 : Int) else 0) = 0 := (sumTo_congr fun i _ => by split <;> rfl).trans (sumTo_zero (n := k))
    rw [this]
    exact Int.le_refl _
  | e :: E, x :: X, he, hf, S => by
    obtain ⟨hlh, hak, hbk⟩ := he e (List.mem_cons_self ..)
    obtain ⟨f1, f2, f3⟩ := hf
    have ih := net_cut E X (fun y hy => he y (List.mem_cons_of_mem _ hy)) f3 S
    have e1 : sS k (netE (e :: E) (x :: X)) S = sS k (netE E X) S - (-x) * (oI (S e.b) 1 - oI (S e.a) 1) := by
      rw [← sS_less hak hbk]
      congr 1
      funext i
      show netE E X i + x * _ = _
      rw [Int.neg_mul]
      omega
    rw [e1]
    unfold fE
    generalize S e.a = c1
    generalize S e.b = c2
    cases c1 <;> cases c2 <;> simp [oI] <;> omega
  | [], _ :: _, _, h, _ => h.elim
  | _ :: _, [], _, h, _ => h.elim
end G
end
section
set_option Elab.async false
set_option linter.all false
set_option maxRecDepth 100000
namespace G
open PySem L2 PyProof.Rows
/-! ### sizes of ints -/
theorem Bd.mono {a b : Nat} {i : Int} (h : Bd a i) (e : a ≤ b) : Bd b i := Nat.lt_of_lt_of_le h (Nat.pow_le_pow_right (by decide) e)
theorem Bd.mul {a b : Nat} {i j : Int} (h : Bd a i) (k : Bd b j) : Bd (a + b) (i * j) := by
  unfold Bd at *
  rw [Int.natAbs_mul, Nat.pow_add]
  exact Nat.mul_lt_mul'' h k
theorem Bd.add {a : Nat} {i j : Int} (h : Bd a i) (k : Bd a j) : Bd (a + 1) (i + j) := by
  unfold Bd at *
  rw [Nat.pow_succ]
  omega
theorem Bd.sub {a : Nat} {i j : Int} (h : Bd a i) (k : Bd a j) : Bd (a + 1) (i - j) := by
  unfold Bd at *
  rw [Nat.pow_succ]
  omega
theorem Bd.neg {a : Nat} {i : Int} (h : Bd a i) : Bd a (-i) := by
  unfold Bd at *
  omega
theorem Bd.zero {a : Nat} : Bd a 0 := Nat.pos_of_ne_zero (by simp)
/-- both factors together below 2^27 bits -/
def CMulG (i j : Int) : Prop := (∃ a b : Nat, Bd a i ∧ Bd b j ∧ a + b ≤ 134217728) ∨ Bd 64 i ∨ Bd 64 j
theorem CMulG.of {i j : Int} {a b : Nat} (h : Bd a i) (k : Bd b j) (e : a + b ≤ 134217728) : CMulG i j := .inl ⟨a, b, h, k, e⟩
theorem CMulG.l {i j : Int} (h : Bd 64 i) : CMulG i j := .inr (.inl h)
theorem CMulG.r {i j : Int} (h : Bd 64 j) : CMulG i j := .inr (.inr h)
theorem CMulG.ok {i j : Int} (h : CMulG i j) : IntMulOk i j := by
  rcases h with ⟨a, b, h1, h2, h3⟩ | h | h
  · exact mulOk_of_bits (intBits_le h1) (intBits_le h2) h3
  · exact .of_left (intBits_le h)
  · exact .of_right (intBits_le h)
/-! ### division at any size -/
structure Seer (X : Cx) : Prop where
  ns : X.base.NoSeer
  tr : X.prog.given.tree = none
  st : ∃ e l, X.stack = e :: l ∧ e.scope.isGenerator = false ∧ e.scope.isCoroutine = false ∧ e.builtins = builtinsNs ∧ e.globals = mainGlobals
  dp : X.A.depth + 100 < recursionLimit
section
variable {X : Cx}
theorem Seer.room {pins : List (Addr × Obj)} {σ : L2.St} {H : Hp} {s : Shared} (S : Seer X) (I : L2.Inv X pins σ H s) : PylongRoom (model X.prog X.w) X.A s := by
  obtain ⟨e, l, h1, h2, h3, h4, h5⟩ := S.st
  exact PylongRoom.of I.nolimit S.dp (SeerAt.of (S.ns.keeps I.bk) S.tr (by rw [I.ok.frames, h1]) h2 h3 h4 h5)
theorem op_fdivG (S : Seer X) : OpR X (binaryOp .FloorDiv) (rI (fun _ j => j ≠ 0) fun i j => .int (i.fdiv j)) := by
  intro pins s σ H x y v u Q I rx ry h
  obtain ⟨i, j, rfl, rfl, hc, q⟩ := h
  obtain ⟨t, rfl⟩ := rx
  obtain ⟨t', rfl⟩ := ry
  exact floordiv_int hc ⟨.int _, H, I.tok _, ⟨_, rfl⟩, q⟩ (.inr (S.room I))
theorem op_mulG : OpR X (binaryOp .Mult) (rI CMulG fun i j => .int (i * j)) := opI fun _ _ _ _ _ _ _ hc q => mul_int q hc.ok
end
end G
end
section
set_option Elab.async false
set_option linter.all false
set_option maxRecDepth 100000
namespace G
open PySem L2 PyProof.Rows
/-! ### heaps cut -/
open Classical in
noncomputable def off (H : Hp) (M : Addr → Prop) : Hp := fun a => if M a then none else H a
theorem off_some {H : Hp} {M : Addr → Prop} {a : Addr} {o : HO} : off H M a = some o ↔ ¬ M a ∧ H a = some o := by
  unfold off
  by_cases h : M a
  · rw [if_pos h]
    exact ⟨fun z => (by cases z), fun z => absurd h z.1⟩
  · rw [if_neg h]
    exact ⟨fun z => ⟨h, z⟩, fun z => z.2⟩
theorem off_in {H : Hp} {M : Addr → Prop} {a : Addr} {o : HO} (h : ¬ M a) (e : H a = some o) : off H M a = some o := off_some.mpr ⟨h, e⟩
theorem off_same {H : Hp} {M : Addr → Prop} : Same (off H M) H := fun _ _ h => (off_some.mp h).2
theorem off_mono {H H' : Hp} {M : Addr → Prop} (h : Same H H') : Same (off H M) (off H' M) := fun _ _ e => off_in (off_some.mp e).1 (h _ _ (off_some.mp e).2)
/-- fewer are cut -/
theorem off_less {H : Hp} {M N : Addr → Prop} (h : ∀ a, N a → M a) : Same (off H M) (off H N) := fun _ _ e => off_in (fun z => (off_some.mp e).1 (h _ z)) (off_some.mp e).2
theorem off_imp {H H' : Hp} {M N : Addr → Prop} (s : Same H H') (h : ∀ a, N a → M a ∨ H a = none) : Same (off H M) (off H' N) := fun a o e => by
  obtain ⟨h1, h2⟩ := off_some.mp e
  refine off_in (fun z => ?_) (s _ _ h2)
  rcases h a z with q | q
  · exact h1 q
  · rw [q] at h2; cases h2
/-- what was there -/
def dom (H : Hp) : Addr → Prop := fun a => H a ≠ none
/-- one more -/
def wth (M : Addr → Prop) (l : Addr) : Addr → Prop := fun a => M a ∨ a = l
theorem wth_l {M : Addr → Prop} {l : Addr} : wth M l l := .inr rfl
theorem wth_m {M : Addr → Prop} {l a : Addr} (h : M a) : wth M l a := .inl h
/-- a change at a cut place -/
theorem off_upd {H : Hp} {M : Addr → Prop} {l : Addr} {o : HO} (h : M l) : off (upd H l o) M = off H M := by
  funext a
  unfold off
  by_cases m : M a
  · rw [if_pos m, if_pos m]
  · rw [if_neg m, if_neg m]
    exact upd_ne fun e => m (e ▸ h)
theorem same_new {H : Hp} {p : Addr} {o : HO} (h : H p = none) : Same H (upd H p o) := fun b u e => by
  rw [upd_ne (ne_of_none e h)]
  exact e
theorem same_mut {H H' : Hp} {p : Addr} {o : HO} (e : Same H H') (h : H p = none) : Same H (upd H' p o) := fun b u q => by
  rw [upd_ne (ne_of_none q h)]
  exact e b u q
theorem dom_of {H : Hp} {a : Addr} {o : HO} (h : H a = some o) : dom H a := by
  unfold dom
  rw [h]
  exact fun z => by cases z
theorem dom_same {H H' : Hp} {a : Addr} (s : Same H H') (h : dom H a) : dom H' a := by
  unfold dom at *
  cases e : H a with
  | none => exact absurd e h
  | some o => rw [s a o e]; exact fun z => by cases z
theorem fresh_ne {H : Hp} {a b : Addr} (h : dom H a) (e : H b = none) : a ≠ b := fun z => h (z ▸ e)
/-! ### two lists side by side -/
def All2 {α β : Type} (R : α → β → Prop) : List α → List β → Prop
  | [], [] => True
  | x :: xs, y :: ys => R x y ∧ All2 R xs ys
  | _, _ => False
section
variable {α β : Type} {R S : α → β → Prop}
theorem All2.len : ∀ {xs : List α} {ys : List β}, All2 R xs ys → xs.length = ys.length
  | [], [], _ => rfl
  | _ :: _, _ :: _, h => congrArg (· + 1) (All2.len h.2)
  | [], _ :: _, h => h.elim
  | _ :: _, [], h => h.elim
theorem All2.imp : ∀ {xs : List α} {ys : List β}, (∀ x y, x ∈ xs → y ∈ ys → R x y → S x y) → All2 R xs ys → All2 S xs ys
  | [], [], _, _ => trivial
  | x :: _, y :: _, f, h => ⟨f x y (.head _) (.head _) h.1, All2.imp (fun a b p q => f a b (.tail _ p) (.tail _ q)) h.2⟩
  | [], _ :: _, _, h => h.elim
  | _ :: _, [], _, h => h.elim
theorem All2.get : ∀ {xs : List α} {ys : List β} {i : Nat} {y : β}, All2 R xs ys → ys[i]? = some y → ∃ x, xs[i]? = some x ∧ R x y
  | x :: _, y :: _, 0, _, h, e => by
    rw [List.getElem?_cons_zero] at e
    cases e
    exact ⟨x, rfl, h.1⟩
  | _ :: xs, _ :: ys, i + 1, _, h, e => All2.get (xs := xs) (ys := ys) (i := i) h.2 e
  | [], [], _, _, _, e => by simp at e
  | [], _ :: _, _, _, h, _ => h.elim
  | _ :: _, [], _, _, h, _ => h.elim
theorem All2.get' : ∀ {xs : List α} {ys : List β} {i : Nat} {x : α}, All2 R xs ys → xs[i]? = some x → ∃ y, ys[i]? = some y ∧ R x y
  | x :: _, y :: _, 0, _, h, e => by
    rw [List.getElem?_cons_zero] at e
    cases e
    exact ⟨y, rfl, h.1⟩
  | _ :: xs, _ :: ys, i + 1, _, h, e => All2.get' (xs := xs) (ys := ys) (i := i) h.2 e
  | [], [], _, _, _, e => by simp at e
  | [], _ :: _, _, _, h, _ => h.elim
  | _ :: _, [], _, _, h, _ => h.elim
theorem All2.set : ∀ {xs : List α} {ys : List β} {x : α} {y : β} (i : Nat), All2 R xs ys → R x y → All2 R (xs.set i x) (ys.set i y)
  | [], [], _, _, _, _, _ => trivial
  | _ :: _, _ :: _, _, _, 0, h, r => ⟨r, h.2⟩
  | _ :: _, _ :: _, _, _, i + 1, h, r => ⟨h.1, All2.set i h.2 r⟩
  | [], _ :: _, _, _, _, h, _ => h.elim
  | _ :: _, [], _, _, _, h, _ => h.elim
theorem All2.app : ∀ {xs xs' : List α} {ys ys' : List β}, All2 R xs ys → All2 R xs' ys' → All2 R (xs ++ xs') (ys ++ ys')
  | [], _, [], _, _, k => k
  | _ :: _, _, _ :: _, _, h, k => ⟨h.1, All2.app h.2 k⟩
  | [], _, _ :: _, _, h, _ => h.elim
  | _ :: _, _, [], _, h, _ => h.elim
theorem All2.snoc {xs : List α} {ys : List β} {x : α} {y : β} (h : All2 R xs ys) (r : R x y) : All2 R (xs ++ [x]) (ys ++ [y]) := h.app ⟨r, trivial⟩
theorem All2.erase : ∀ {xs : List α} {ys : List β} (i : Nat), All2 R xs ys → All2 R (xs.eraseIdx i) (ys.eraseIdx i)
  | [], [], _, _ => trivial
  | _ :: _, _ :: _, 0, h => h.2
  | _ :: _, _ :: _, i + 1, h => ⟨h.1, All2.erase i h.2⟩
  | [], _ :: _, _, h => h.elim
  | _ :: _, [], _, h => h.elim
theorem All2.nil : All2 R [] [] := trivial
theorem All2.take : ∀ {xs : List α} {ys : List β} (i : Nat), All2 R xs ys → All2 R (xs.take i) (ys.take i)
  | _, _, 0, _ => trivial
  | [], [], _ + 1, _ => trivial
  | _ :: _, _ :: _, i + 1, h => ⟨h.1, All2.take i h.2⟩
  | [], _ :: _, _ + 1, h => h.elim
  | _ :: _, [], _ + 1, h => h.elim
theorem All2.drop : ∀ {xs : List α} {ys : List β} (i : Nat), All2 R xs ys → All2 R (xs.drop i) (ys.drop i)
  | _, _, 0, h => h
  | [], [], _ + 1, _ => trivial
  | _ :: _, _ :: _, i + 1, h => All2.drop i h.2
  | [], _ :: _, _ + 1, h => h.elim
  | _ :: _, [], _ + 1, h => h.elim
end
/-! ### what a value stands for -/
class Rep (α : Type) where
  rep : Hp → V → α → Prop
  mono : ∀ {H H' : Hp} {v : V} {a : α}, Same H H' → rep H v a → rep H' v a
abbrev rep {α : Type} [Rep α] : Hp → V → α → Prop := Rep.rep
instance : Rep Int := ⟨fun _ v i => v = .int i, fun _ h => h⟩
instance : Rep Bool := ⟨fun _ v i => v = .bl i, fun _ h => h⟩
instance : Rep Str := ⟨fun _ v i => v = .str i, fun _ h => h⟩
def repL {α : Type} [Rep α] (H : Hp) (v : V) (as : List α) : Prop := ∃ p xs, v = .ref p ∧ H p = some (.lst xs) ∧ All2 (rep H) xs as
def repP {α β : Type} [Rep α] [Rep β] (H : Hp) (v : V) (c : α × β) : Prop := ∃ p x y, v = .ref p ∧ H p = some (.tup [x, y]) ∧ rep H x c.1 ∧ rep H y c.2
def repO {α : Type} [Rep α] (H : Hp) (v : V) : Option α → Prop
  | none => v = .non
  | some a => v ≠ .non ∧ rep H v a
theorem all2_mono {α : Type} [Rep α] {H H' : Hp} {xs : List V} {as : List α} (s : Same H H') (h : All2 (rep H) xs as) : All2 (rep H') xs as := h.imp fun _ _ _ _ r => Rep.mono s r
instance {α : Type} [Rep α] : Rep (List α) := ⟨repL, fun s ⟨p, xs, e, h, r⟩ => ⟨p, xs, e, s _ _ h, all2_mono s r⟩⟩
instance {α β : Type} [Rep α] [Rep β] : Rep (α × β) := ⟨repP, fun s ⟨p, x, y, e, h, r, r'⟩ => ⟨p, x, y, e, s _ _ h, Rep.mono s r, Rep.mono s r'⟩⟩
instance {α : Type} [Rep α] : Rep (Option α) := ⟨repO, fun {H H' v a} s h => by
  cases a with
  | none => exact h
  | some a => exact ⟨h.1, Rep.mono s h.2⟩⟩
theorem rep_int {H : Hp} {i : Int} : rep H (.int i) i := rfl
theorem rep_bl {H : Hp} {i : Bool} : rep H (.bl i) i := rfl
theorem all2_ints {H : Hp} : ∀ {xs : List V} {r : Row}, All2 (rep H) xs r ↔ xs = r.map V.int
  | [], [] => ⟨fun _ => rfl, fun _ => trivial⟩
  | x :: xs, i :: r => by
    have ih := all2_ints (H := H) (xs := xs) (r := r)
    constructor
    · rintro ⟨h, k⟩
      have h' : x = .int i := h
      rw [h', ih.mp k]
      rfl
    · intro e
      injection e with e1 e2
      exact ⟨e1, ih.mpr e2⟩
  | [], _ :: _ => ⟨fun h => h.elim, fun h => by cases h⟩
  | _ :: _, [] => ⟨fun h => h.elim, fun h => by cases h⟩
theorem rep_row {H : Hp} {v : V} {r : Row} : rep H v r ↔ ∃ p, v = .ref p ∧ H p = some (.lst (r.map V.int)) := by
  constructor
  · rintro ⟨p, xs, e, h, k⟩
    rw [all2_ints.mp k] at h
    exact ⟨p, e, h⟩
  · rintro ⟨p, e, h⟩
    exact ⟨p, _, e, h, all2_ints.mpr rfl⟩
theorem rep_row_of {H : Hp} {p : Addr} {r : Row} (h : H p = some (.lst (r.map V.int))) : rep H (.ref p) r := rep_row.mpr ⟨p, rfl, h⟩
/-! ### promises of results -/
/-- a new list whose items stand for as, none of them within M, nor the list itself -/
def NewL {α : Type} [Rep α] (M : Addr → Prop) (H : Hp) (as : List α) (Q : VK) : Prop := ∀ p xs H', Same H H' → H p = none → H' p = some (.lst xs) → All2 (rep (off H' (wth M p))) xs as → Q (.ref p) H'
/-- a new row -/
def NewR (H : Hp) (r : Row) (Q : VK) : Prop := ∀ p H', Same H H' → H p = none → H' p = some (.lst (r.map V.int)) → Q (.ref p) H'
/-- some value that stands for a, apart from M -/
def NewV {α : Type} [Rep α] (M : Addr → Prop) (H : Hp) (a : α) (Q : VK) : Prop := ∀ v H', Same H H' → rep (off H' M) v a → Q v H'
theorem NewR.l {M : Addr → Prop} {H : Hp} {r : Row} {Q : VK} (h : NewR H r Q) : NewL M H r Q := fun p xs H' s n e a => by
  rw [all2_ints.mp a] at e
  exact h p H' s n e
theorem off_sub {H : Hp} {M : Addr → Prop} {p : Addr} : Same (off H (wth M p)) (off H M) := off_less fun _ h => .inl h
theorem NewV.l {α : Type} [Rep α] {M : Addr → Prop} {H : Hp} {as : List α} {Q : VK} (hM : ∀ a, M a → dom H a) (h : NewV M H as Q) : NewL M H as Q := fun p xs H' s n e a =>
  h _ _ s ⟨p, xs, rfl, off_in (fun m => hM p m n) e, all2_mono off_sub a⟩
end G
end
section
set_option Elab.async false
set_option linter.all false
set_option maxRecDepth 100000
namespace G
open PySem L2 PyProof.Rows
/-! ### readings by name -/
abbrev rAddI : R2 := rI0 fun i j => .int (i + j)
abbrev rSubI : R2 := rI0 fun i j => .int (i - j)
abbrev rMulI : R2 := rI CMulG fun i j => .int (i * j)
abbrev rDivI : R2 := rI (fun _ j => j ≠ 0) fun i j => .int (i.fdiv j)
abbrev rModI : R2 := rI (fun _ j => j ≠ 0) fun i j => .int (i.fmod j)
abbrev rPowI : R2 := rI CPow fun i j => .int (i ^ j.toNat)
abbrev rLtI : R2 := rI0 fun i j => .bl (decide (i < j))
abbrev rLeI : R2 := rI0 fun i j => .bl (decide (i ≤ j))
abbrev rGtI : R2 := rI0 fun i j => .bl (decide (j < i))
abbrev rGeI : R2 := rI0 fun i j => .bl (decide (j ≤ i))
abbrev uNegI : V → Hp → VK → Prop := rU fun i => .int (-i)
def rIsNo : R2 := fun x y H Q => y = .non ∧ Q (.bl (decide (x = .non))) H
def rNotNo : R2 := fun x y H Q => y = .non ∧ Q (.bl (!decide (x = .non))) H
def rLenG (K : PySem.W.Frag) : List V → Hp → VK → Prop := fun xs H Q => ∃ p ys, xs = [.ref p] ∧ (SqL K H p ys ∨ SqT K H p ys) ∧ Q (.int ys.length) H
def rLstG (K : PySem.W.Frag) : List V → Hp → VK → Prop := fun xs H Q => ∃ p ys, xs = [.ref p] ∧ (SqL K H p ys ∨ SqT K H p ys) ∧ ∀ l, H l = none → Q (.ref l) (upd H l (.lst ys))
def rAbsG : List V → Hp → VK → Prop := fun xs H Q => ∃ i, xs = [.int i] ∧ Q (.int (if i < 0 then -i else i)) H
def rIntG : List V → Hp → VK → Prop := fun xs H Q => (∃ i, xs = [.int i] ∧ Q (.int i) H) ∨ ∃ k, xs = [.bl k] ∧ Q (.int (if k then 1 else 0)) H
/-- xs[i], i from the front -/
def rIxG (K : PySem.W.Frag) : R2 := fun x y H Q => ∃ p xs i v, x = .ref p ∧ y = .int ((i : Nat) : Int) ∧ SqL K H p xs ∧ xs[i]? = some v ∧ Q v H
def rIxGT (K : PySem.W.Frag) : R2 := fun x y H Q => ∃ p xs i v, x = .ref p ∧ y = .int ((i : Nat) : Int) ∧ SqT K H p xs ∧ xs[i]? = some v ∧ Q v H
/-- xs[i] = v, i from the front -/
def rSetG : TSet := fun o i v H Q => ∃ p xs j, o = .ref p ∧ i = .int ((j : Nat) : Int) ∧ H p = some (.lst xs) ∧ j < xs.length ∧ Q (upd H p (.lst (xs.set j v)))
section
variable {X : Cx}
theorem o_isN : OpR X (compareOp .Is) rIsNo := op_isN
theorem o_notN : OpR X (compareOp .IsNot) rNotNo := op_notN
theorem c_len : CallR X (.builtin "len") (rLenG X.K) := call_len_seq
theorem c_list : CallR X (.type "list") (rLstG X.K) := call_list_of
theorem c_abs : CallR X (.builtin "abs") rAbsG := call_abs
theorem c_int : CallR X (.type "int") rIntG := call_int1
theorem x_ix : IxR X (rIxG X.K) := by
  intro value slice pins s σ H x y v u Q I rx ry h hs
  obtain ⟨p, xs, i, z, e1, e2, hq, he, q⟩ := h
  exact ix_list value slice pins s σ H x y v u Q I rx ry ⟨p, xs, i, z, e1, e2, hq, atI_nat he, q⟩ hs
theorem x_ixT : IxR X (rIxGT X.K) := by
  intro value slice pins s σ H x y v u Q I rx ry h hs
  obtain ⟨p, xs, i, z, e1, e2, hq, he, q⟩ := h
  exact ix_tup value slice pins s σ H x y v u Q I rx ry ⟨p, xs, i, z, e1, e2, hq, atI_nat he, q⟩ hs
theorem ixN_of {n j : Nat} (h : j < n) : ixN n (j : Int) = some j := by
  unfold ixN
  rw [if_pos (by omega), if_pos (by omega)]
  rfl
theorem z_set : PSet X rSetG := by
  intro pins s σ H o i v ov iv u Q I ro ri rv h
  obtain ⟨p, xs, j, e1, e2, e3, e4, q⟩ := h
  exact set_list pins s σ H o i v ov iv u Q I ro ri rv ⟨p, xs, j, j, e1, e2, e3, ixN_of e4, q⟩
theorem z_get : PGet X (rIxG X.K) := by
  intro pins s σ H o i ov iv Q I ro ri h
  obtain ⟨p, xs, j, z, rfl, rfl, hq, he, q⟩ := h
  cases ro
  obtain ⟨t, rfl⟩ := ri
  obtain ⟨its, r, pl, hz⟩ := I.list hq
  obtain ⟨w, ew, rw'⟩ := r.get he
  have hn := line63
  have hj := (List.getElem?_eq_some_iff.mp he).1
  refine wpAny_getItem_list pl.isList (Int.natCast_nonneg _) (by omega) (x := w) ?_ ⟨z, H, I, rw', q⟩
  simpa using ew
/-! ### defs of the text -/
/-- where a def stands -/
def At (K : PySem.W.Frag) (mg : Str → Option Value) (x : Str) (st : Stmt) : Prop := ∃ f fd, Fun K x x st f fd ∧ mg x = some (.ref f)
/-- a def that keeps a promise -/
def Cal (P : Program) (w : World) (K : PySem.W.Frag) (mg : Str → Option Value) (base : Heap) (k : Nat) (x : Str) (sp : Sp) : Prop :=
  ∃ f fd ps, FnOk P w K mg base CX0 k f fd ps sp ∧ mg x = some (.ref f) ∧ PySem.W.keepIn K (.ref f) = true ∧ Binds K fd ps []
theorem g_call {k : Nat} {x : Str} {sp : Sp} {e : Expr} {es : List Expr} {p pos : Pos} {t : TA} (C : Cal X.prog X.w X.K X.mg X.base k x sp) (hr : Room k X.A) (hg : Gl X x) (ha : PA X (e :: es) t)
    (hdb : (x == ("__debug__" : Str)) = false := by decide) (he : starEach (e :: es) X.env = (false, eval e X.env) :: starEach es X.env := by rfl) (hpl : (backTo pos (starEach es X.env)).any (·.1) = false := by rfl) :
    PE X (.Call (.Name x p) (e :: es) [] pos) (tCall sp [] E0 t) := by
  obtain ⟨f, fd, ps, F, hm, kp, b⟩ := C
  exact pe_call F hr hg hm kp b .nil pass0 ha hdb he hpl
theorem g_call0 {k : Nat} {x : Str} {sp : Sp} {p pos : Pos} (C : Cal X.prog X.w X.K X.mg X.base k x sp) (hr : Room k X.A) (hg : Gl X x)
    (hdb : (x == ("__debug__" : Str)) = false := by decide) : PE X (.Call (.Name x p) [] [] pos) (tCall sp [] E0 tNil) := by
  obtain ⟨f, fd, ps, F, hm, kp, b⟩ := C
  exact pe_call0 F hr hg hm kp b .nil pass0 hdb
end
section
variable {P : Program} {w : World} {K : PySem.W.Frag} {mg : Str → Option Value} {base : Heap}
/-- THE RULE: a def by its reading -/
theorem cal_mk {x : Str} {st : Stmt} {N ps : List Str} {k : Nat} {sp : Sp} {t : TS} (A : At K mg x st) (S : FnScope N ps (defScope st)) (len : ∀ vs H Q E, sp vs H Q E → vs.length = ps.length)
    (hb : ∀ (kV doc pm : Value) (an : Option Addr) (cdv ct : Value) (us : List Value), us.length = ps.length → bindArgs (PySem.W.fnOf x x (defArgs st) (defBody st) (defScope st) .none kV doc pm an cdv ct) ⟨us, []⟩ = pure (ps.zip us))
    (hw : ∀ (f : Addr) (cdv : Value) (A : Around) (outer : List Env) (s : Shared) (H : Hp) (E : XK), Room k (A.deeper (envOfC x (defScope st) s.heap.objs.size f cdv)) →
      PSs (cxOf CX0 P w K mg base N x (defScope st) f cdv A outer s H E).nox (defBody st) t)
    (hd : ∀ vs H Q E, sp vs H Q E → t { nx := fun _ H' => Q .non H', rt := Q } (start N vs) H) : Cal P w K mg base (k + 1) x sp := by
  obtain ⟨f, fd, F, hm⟩ := A
  exact ⟨f, fd, ps, F.ok S len fun cdv A outer s H vs Q E hr h => ⟨t, hw f cdv A outer s H E hr, hd vs H Q E h⟩, hm, F.kp, F.binds hb⟩
/-- a seer within a def's body -/
theorem seer_of {CX : CXT} {N : List Str} {x : Str} {st : Stmt} {ps : List Str} {f : Addr} {cdv : Value} {A : Around} {outer : List Env} {s : Shared} {H : Hp} {E : XK} {k : Nat} (hs : base.NoSeer) (ht : P.given.tree = none) (S : FnScope N ps (defScope st))
    (hr : Room k (A.deeper (envOfC x (defScope st) s.heap.objs.size f cdv))) (hk : 32 ≤ k) : Seer (cxOf CX P w K mg base N x (defScope st) f cdv A outer s H E) := by
  refine ⟨hs, ht, ⟨_, outer, rfl, S.gen, S.co, rfl, rfl⟩, ?_⟩
  have := hr.dp
  show (A.deeper (envOfC x (defScope st) s.heap.objs.size f cdv)).depth + 100 < recursionLimit
  omega
end
/-! ### steps of a reading -/
section
variable {σ : L2.St} {H : Hp} {Q : VK} {D : Ends} {ta tb te : TE} {t u : TT} {x y v : V} {r : R2} {K : PySem.W.Frag}
theorem w_seq {t u : TS} (h : t { D with nx := u D } σ H) : tSeq t u D σ H := h
theorem w_next (h : D.nx σ H) : tNext D σ H := h
theorem w_asg {g : TG} (h : te σ H fun x H1 => g x σ H1 D.nx) : tAsg te g D σ H := h
theorem w_name {i : Nat} {R : L2.St → Hp → Prop} (h : R (σ.set i (some v)) H) : gName i v σ H R := h
theorem w_sub {to ti : TE} {z : TSet} {R : L2.St → Hp → Prop} (h : to σ H fun o H1 => ti σ H1 fun i H2 => z o i v H2 fun H3 => R σ H3) : gSub to ti z v σ H R := h
theorem w_ret (h : te σ H D.rt) : tRet te D σ H := h
theorem w_retN (h : D.rt .non H) : tRetN D σ H := h
theorem w_drop (h : te σ H fun _ H1 => D.nx σ H1) : tDrop te D σ H := h
theorem w_ifS {a b : TS} (h : t σ H fun c H1 => if c = true then a D σ H1 else b D σ H1) : tIfS t a b D σ H := h
theorem w_var {i : Nat} (h : σ[i]? = some (some v)) (q : Q v H) : tVar i σ H Q := ⟨v, h, q⟩
theorem w_c (q : Q v H) : tC v σ H Q := q
theorem w_op (h : ta σ H fun x H1 => tb σ H1 fun y H2 => r x y H2 Q) : tOp r ta tb σ H Q := h
theorem w_un {r : V → Hp → VK → Prop} (h : ta σ H fun x H1 => r x H1 Q) : tUn r ta σ H Q := h
theorem w_cb {r : List V → Hp → VK → Prop} {a : TA} (h : a σ H fun vs H1 => r vs H1 Q) : tCB r a σ H Q := h
theorem w_call {sp : Sp} {a : TA} {E : XK} (h : a σ H fun vs H1 => sp (vs ++ []) H1 Q E) : tCall sp [] E a σ H Q := h
theorem w_nil {R : List V → Hp → Prop} (h : R [] H) : tNil σ H R := h
theorem w_cons {a : TA} {R : List V → Hp → Prop} (h : ta σ H fun x H1 => a σ H1 fun xs H2 => R (x :: xs) H2) : tCons ta a σ H R := h
theorem w_test {R : Bool → Hp → Prop} (h : te σ H fun x H1 => ∃ k, x = .bl k ∧ R k H1) : tTest te σ H R := h
theorem w_tB {R : Bool → Hp → Prop} (h : te σ H fun x H1 => ∃ k, x = .bl k ∧ R k H1) : tB te σ H R := h
theorem w_k {k : Bool} {R : Bool → Hp → Prop} (h : R k H) : ∃ k', V.bl k = .bl k' ∧ R k' H := ⟨k, rfl, h⟩
theorem w_and {R : Bool → Hp → Prop} (h : t σ H fun c H1 => if c = true then u σ H1 R else R false H1) : tAnd t u σ H R := h
theorem w_or {R : Bool → Hp → Prop} (h : t σ H fun c H1 => if c = true then R true H1 else u σ H1 R) : tOr t u σ H R := h
theorem w_not {R : Bool → Hp → Prop} (h : t σ H fun c H1 => R (!c) H1) : tNot t σ H R := h
theorem w_ifE (h : t σ H fun c H1 => if c = true then ta σ H1 Q else tb σ H1 Q) : tIf t ta tb σ H Q := h
theorem w_yes {R : Bool → Hp → Prop} (h : R true H) : tYes σ H R := h
theorem w_add {i j : Int} (q : Q (.int (i + j)) H) : rI0 (fun i j => .int (i + j)) (.int i) (.int j) H Q := ⟨i, j, rfl, rfl, q⟩
theorem w_I0 {g : Int → Int → V} {i j : Int} (q : Q (g i j) H) : rI0 g (.int i) (.int j) H Q := ⟨i, j, rfl, rfl, q⟩
theorem w_I {C : Int → Int → Prop} {g : Int → Int → V} {i j : Int} (c : C i j) (q : Q (g i j) H) : rI C g (.int i) (.int j) H Q := ⟨i, j, rfl, rfl, c, q⟩
theorem w_U {g : Int → V} {i : Int} (q : Q (g i) H) : rU g (.int i) H Q := ⟨i, rfl, q⟩
theorem w_eqI {i j : Int} (q : Q (.bl (decide (i = j))) H) : rEq (.int i) (.int j) H Q := ⟨rfl, by
  have e : decide (V.int i = V.int j) = decide (i = j) := by simp
  rw [e]
  exact q⟩
theorem w_neI {i j : Int} (q : Q (.bl (decide (i ≠ j))) H) : rNe (.int i) (.int j) H Q := ⟨rfl, by
  have e : (!decide (V.int i = V.int j)) = decide (i ≠ j) := by simp
  rw [e]
  exact q⟩
theorem w_isN0 (q : Q (.bl true) H) : rIsNo .non .non H Q := ⟨rfl, q⟩
theorem w_isN1 (h : x ≠ .non) (q : Q (.bl false) H) : rIsNo x .non H Q := ⟨rfl, by rw [decide_eq_false h]; exact q⟩
theorem w_notN0 (q : Q (.bl false) H) : rNotNo .non .non H Q := ⟨rfl, q⟩
theorem w_notN1 (h : x ≠ .non) (q : Q (.bl true) H) : rNotNo x .non H Q := ⟨rfl, by rw [decide_eq_false h]; exact q⟩
theorem w_len {p : Addr} {xs : List V} (h : H p = some (.lst xs)) (q : Q (.int xs.length) H) : rLenG K [.ref p] H Q := ⟨p, xs, rfl, .inl (SqL.of h), q⟩
theorem w_abs {i : Int} (q : Q (.int (i.natAbs : Int)) H) : rAbsG [.int i] H Q := ⟨i, rfl, by
  have e : (if i < 0 then -i else i) = (i.natAbs : Int) := by split <;> omega
  rw [e]
  exact q⟩
theorem w_int {i : Int} (q : Q (.int i) H) : rIntG [.int i] H Q := .inl ⟨i, rfl, q⟩
theorem w_lst {p : Addr} {xs : List V} (h : H p = some (.lst xs)) (q : ∀ l, H l = none → Q (.ref l) (upd H l (.lst xs))) : rLstG K [.ref p] H Q := ⟨p, xs, rfl, .inl (SqL.of h), q⟩
theorem w_ix {p : Addr} {xs : List V} {i : Nat} (h : H p = some (.lst xs)) (e : xs[i]? = some v) (q : Q v H) : rIxG K (.ref p) (.int (i : Int)) H Q := ⟨p, xs, i, v, rfl, rfl, SqL.of h, e, q⟩
/-- an item of a row -/
theorem w_ixR {p : Addr} {r : Row} {i : Nat} {z : Int} (h : H p = some (.lst (r.map V.int))) (e : r[i]? = some z) (q : Q (.int z) H) : rIxG K (.ref p) (.int (i : Int)) H Q :=
  w_ix h (by rw [List.getElem?_map, e]; rfl) q
theorem w_set {p : Addr} {xs : List V} {j : Nat} {R : Hp → Prop} (h : H p = some (.lst xs)) (e : j < xs.length) (q : R (upd H p (.lst (xs.set j v)))) : rSetG (.ref p) (.int (j : Int)) v H R := ⟨p, xs, j, rfl, rfl, h, e, q⟩
theorem w_tt {A B : Prop} (h : A) : if true = true then A else B := iteT h
theorem w_ff {A B : Prop} (h : B) : if false = true then A else B := iteF h
theorem w_ite {c A B : Prop} [Decidable c] (h1 : c → A) (h2 : ¬ c → B) : if decide c = true then A else B := by
  by_cases h : c
  · rw [decide_eq_true h]
    exact iteT (h1 h)
  · rw [decide_eq_false h]
    exact iteF (h2 h)
theorem w_bite {c : Bool} {A B : Prop} (h1 : c = true → A) (h2 : c = false → B) : if c = true then A else B := by
  cases c with
  | true => exact iteT (h1 rfl)
  | false => exact iteF (h2 rfl)
theorem w_app {p : Addr} {xs : List V} (h : H p = some (.lst xs)) (hz : xs.length < 1000000) (q : Q .non (upd H p (.lst (xs ++ [v])))) : rAppend (.ref p) [v] H Q := ⟨p, xs, v, rfl, rfl, h, Nat.lt_of_lt_of_le hz (by decide), q⟩
theorem w_bm {T : String} {r : V → List V → Hp → VK → Prop} {to : TE} {a : TA} (h : to σ H fun x H1 => tyV K T x H1 ∧ a σ H1 fun xs H2 => r x xs H2 Q) : tBM K T r to a σ H Q := h
theorem w_tyL {p : Addr} {xs : List V} (h : H p = some (.lst xs)) : tyV K "list" (.ref p) H := .inl ⟨rfl, _, SqL.of h⟩
theorem w_popAt {p : Addr} {xs : List V} {i : Nat} (h : H p = some (.lst xs)) (hz : xs.length ≤ 1000000) (e : xs[i]? = some v) (q : Q v (upd H p (.lst (xs.eraseIdx i)))) : rPopAt (.ref p) [.int (i : Int)] H Q := by
  have hi := (List.getElem?_eq_some_iff.mp e).1
  refine ⟨p, xs, i, i, v, rfl, rfl, h, by omega, by omega, ?_, e, q⟩
  obtain ⟨h1, _⟩ := ixN_seq (ixN_of hi)
  exact h1
end
end G
end
section
set_option Elab.async false
set_option linter.all false
set_option maxRecDepth 100000
namespace G
open PySem L2 PyProof.Rows
/-! ### statements, with the ends written out -/
section
variable {σ : L2.St} {H : Hp} {Q : VK} {nx bk ct : L2.St → Hp → Prop} {rt : VK} {ta tb te : TE} {t u : TT} {x y v : V} {r : R2} {K : PySem.W.Frag}
theorem v_seq {t u : TS} (h : t ⟨u ⟨nx, rt, bk, ct⟩, rt, bk, ct⟩ σ H) : tSeq t u ⟨nx, rt, bk, ct⟩ σ H := h
theorem v_next (h : nx σ H) : tNext ⟨nx, rt, bk, ct⟩ σ H := h
theorem v_asg {g : TG} (h : te σ H fun x H1 => g x σ H1 nx) : tAsg te g ⟨nx, rt, bk, ct⟩ σ H := h
theorem v_ret (h : te σ H rt) : tRet te ⟨nx, rt, bk, ct⟩ σ H := h
theorem v_retN (h : rt .non H) : tRetN ⟨nx, rt, bk, ct⟩ σ H := h
theorem v_drop (h : te σ H fun _ H1 => nx σ H1) : tDrop te ⟨nx, rt, bk, ct⟩ σ H := h
theorem v_ifS {a b : TS} (h : t σ H fun c H1 => if c = true then a ⟨nx, rt, bk, ct⟩ σ H1 else b ⟨nx, rt, bk, ct⟩ σ H1) : tIfS t a b ⟨nx, rt, bk, ct⟩ σ H := h
theorem v_aug {i : Nat} {ti : TIp} (h : σ[i]? = some (some x)) (q : te σ H fun y H1 => ti x y H1 fun z H2 => nx (σ.set i (some z)) H2) : tAug i te ti ⟨nx, rt, bk, ct⟩ σ H := ⟨x, h, q⟩
theorem v_ip {f : Int → Int → Int} {i j : Int} (q : Q (.int (f i j)) H) : ipI f (.int i) (.int j) H Q := ⟨i, j, rfl, rfl, q⟩
theorem v_augS {to ti : TE} {tget : V → V → Hp → VK → Prop} {tip : TIp} {tset : TSet} (h : to σ H fun o H1 => ti σ H1 fun i H2 => tget o i H2 fun x H3 => te σ H3 fun y H4 => tip x y H4 fun z H5 => tset o i z H5 fun H6 => nx σ H6) : tAugS to ti te tget tip tset ⟨nx, rt, bk, ct⟩ σ H := h
theorem v_brk (h : bk σ H) : tBreak ⟨nx, rt, bk, ct⟩ σ H := h
theorem v_cont (h : ct σ H) : tCont ⟨nx, rt, bk, ct⟩ σ H := h
theorem v_for {wi : TI} {g : TG} {tb : TS} (h : wi σ H fun J H1 => ∃ W : Nat → Nat → L2.St → Hp → Prop, (∃ m, W 0 m σ H1) ∧ ∀ i m σ H, W i m σ H →
      (J.stop i H ∧ nx σ H) ∨ (J.go i H ∧ ∃ N : L2.St → Hp → Prop, (∀ σ' H', N σ' H' → ∃ m', m' < m ∧ W (i + 1) m' σ' H') ∧ ∀ x H', J.yld i H x H' → g x σ H' fun σ2 H2 => tb ⟨N, rt, nx, N⟩ σ2 H2)) : tFor wi g tb ⟨nx, rt, bk, ct⟩ σ H := h
theorem v_rng1 {a : TA} {R : It → Hp → Prop} (h : a σ H fun vs H1 => ∃ j : Int, vs = [.int j] ∧ -(2 ^ 62) ≤ j ∧ j < 2 ^ 62 ∧ R (Itr 0 j.toNat) H1) : iRng1 a σ H R := h
theorem v_rng2 {a : TA} {R : It → Hp → Prop} (h : a σ H fun vs H1 => ∃ i j : Int, vs = [.int i, .int j] ∧ (-(2 ^ 62) ≤ i ∧ i < 2 ^ 62 ∧ -(2 ^ 62) ≤ j ∧ j < 2 ^ 62) ∧ R (Itr i (j - i).toNat) H1) : iRng2 a σ H R := h
theorem v_rng1E {n : Nat} {R : It → Hp → Prop} (hz : n ≤ 1000000) (q : R (Itr 0 n) H) : ∃ j : Int, [V.int (n : Int)] = [.int j] ∧ -(2 ^ 62) ≤ j ∧ j < 2 ^ 62 ∧ R (Itr 0 j.toNat) H := ⟨n, rfl, by omega, by omega, q⟩
theorem v_rng2E {a b : Nat} {R : It → Hp → Prop} (h1 : a ≤ 1000000) (h2 : b ≤ 1000000) (q : R (Itr (a : Int) (b - a)) H) :
    ∃ i j : Int, [V.int (a : Int), V.int (b : Int)] = [.int i, .int j] ∧ (-(2 ^ 62) ≤ i ∧ i < 2 ^ 62 ∧ -(2 ^ 62) ≤ j ∧ j < 2 ^ 62) ∧ R (Itr i (j - i).toNat) H := by
  refine ⟨a, b, rfl, ⟨by omega, by omega, by omega, by omega⟩, ?_⟩
  have e : ((b : Int) - (a : Int)).toNat = b - a := by omega
  rw [e]
  exact q
theorem v_list {R : It → Hp → Prop} (h : te σ H fun x H1 => ∃ a, x = .ref a ∧ (∃ xs, SqL K H1 a xs) ∧ R (Itl K a) H1) : iList K te σ H R := h
theorem v_listE {p : Addr} {xs : List V} {R : It → Hp → Prop} (h : H p = some (.lst xs)) (q : R (Itl K p) H) : ∃ a, V.ref p = .ref a ∧ (∃ xs, SqL K H a xs) ∧ R (Itl K a) H := ⟨p, rfl, ⟨xs, SqL.of h⟩, q⟩
theorem v_sqE {p : Addr} {xs : List V} {R : It → Hp → Prop} (h : SqL K H p xs) (q : R (Itl K p) H) : ∃ a, V.ref p = .ref a ∧ (∃ xs, SqL K H a xs) ∧ R (Itl K a) H := ⟨p, rfl, ⟨xs, h⟩, q⟩
/-- for i in range(n) -/
theorem forR {n : Nat} {j : Nat} {tb : TS} (Pv : Nat → L2.St → Hp → Prop) (h0 : Pv 0 σ H) (hs : ∀ i σ H, i < n → Pv i σ H → tb ⟨Pv (i + 1), rt, nx, Pv (i + 1)⟩ (σ.set j (some (.int (i : Int)))) H) (hd : ∀ σ H, Pv n σ H → nx σ H) :
    ∃ W : Nat → Nat → L2.St → Hp → Prop, (∃ m, W 0 m σ H) ∧ ∀ i m σ H, W i m σ H →
      ((Itr 0 n).stop i H ∧ nx σ H) ∨ ((Itr 0 n).go i H ∧ ∃ N : L2.St → Hp → Prop, (∀ σ' H', N σ' H' → ∃ m', m' < m ∧ W (i + 1) m' σ' H') ∧ ∀ x H', (Itr 0 n).yld i H x H' → gName j x σ H' fun σ2 H2 => tb ⟨N, rt, nx, N⟩ σ2 H2) :=
  for_range (D := ⟨nx, rt, nx, nx⟩) (lo := 0) Pv h0 (fun i σ H hi p => by
    show tb ⟨Pv (i + 1), rt, nx, Pv (i + 1)⟩ (σ.set j (some (.int (0 + (i : Int))))) H
    rw [Int.zero_add]
    exact hs i σ H hi p) hd
/-- for i in range(a, b) -/
theorem forR2 {a n : Nat} {j : Nat} {tb : TS} (Pv : Nat → L2.St → Hp → Prop) (h0 : Pv 0 σ H) (hs : ∀ i σ H, i < n → Pv i σ H → tb ⟨Pv (i + 1), rt, nx, Pv (i + 1)⟩ (σ.set j (some (.int ((a + i : Nat) : Int)))) H) (hd : ∀ σ H, Pv n σ H → nx σ H) :
    ∃ W : Nat → Nat → L2.St → Hp → Prop, (∃ m, W 0 m σ H) ∧ ∀ i m σ H, W i m σ H →
      ((Itr (a : Int) n).stop i H ∧ nx σ H) ∨ ((Itr (a : Int) n).go i H ∧ ∃ N : L2.St → Hp → Prop, (∀ σ' H', N σ' H' → ∃ m', m' < m ∧ W (i + 1) m' σ' H') ∧ ∀ x H', (Itr (a : Int) n).yld i H x H' → gName j x σ H' fun σ2 H2 => tb ⟨N, rt, nx, N⟩ σ2 H2) :=
  for_range (D := ⟨nx, rt, nx, nx⟩) (lo := (a : Int)) Pv h0 (fun i σ H hi p => by
    have e := hs i σ H hi p
    rw [Int.natCast_add] at e
    exact e) hd
/-- for x in a list that stays -/
theorem forL {p : Addr} {xs : List V} {g : TG} {tb : TS} (Pv : Nat → L2.St → Hp → Prop) (h0 : Pv 0 σ H) (hl : ∀ i σ H, i ≤ xs.length → Pv i σ H → SqL K H p xs)
    (hs : ∀ i x σ H, xs[i]? = some x → Pv i σ H → g x σ H fun σ2 H2 => tb ⟨Pv (i + 1), rt, nx, Pv (i + 1)⟩ σ2 H2) (hd : ∀ σ H, Pv xs.length σ H → nx σ H) :
    ∃ W : Nat → Nat → L2.St → Hp → Prop, (∃ m, W 0 m σ H) ∧ ∀ i m σ H, W i m σ H →
      ((Itl K p).stop i H ∧ nx σ H) ∨ ((Itl K p).go i H ∧ ∃ N : L2.St → Hp → Prop, (∀ σ' H', N σ' H' → ∃ m', m' < m ∧ W (i + 1) m' σ' H') ∧ ∀ x H', (Itl K p).yld i H x H' → g x σ H' fun σ2 H2 => tb ⟨N, rt, nx, N⟩ σ2 H2) :=
  for_list (D := ⟨nx, rt, nx, nx⟩) Pv h0 hl hs hd
/-- while, by a word that falls -/
theorem v_while {c : TT} {tb : TS} (W : Nat → L2.St → Hp → Prop) (m0 : Nat) (h0 : W m0 σ H)
    (hs : ∀ m σ H, W m σ H → c σ H fun b H1 => if b = true then ∃ N : L2.St → Hp → Prop, (∀ σ' H', N σ' H' → ∃ m', m' < m ∧ W m' σ' H') ∧ tb ⟨N, rt, nx, N⟩ σ H1 else nx σ H1) : tWhile c tb ⟨nx, rt, bk, ct⟩ σ H := ⟨W, ⟨m0, h0⟩, hs⟩
/-! ### comprehensions -/
theorem v_lc {wi : TI} {g : TG} {tt : TT} {te : TE} {vs : List Nat} (h : wi σ H fun J H1 => ∀ D, H1 D = none → ∃ W : Nat → Nat → Hp → Prop, (∃ m, W 0 m (upd H1 D (.lst []))) ∧ ∀ i m H, W i m H →
  (J.stop i H ∧ Q (.ref D) H) ∨ (J.go i H ∧ ∃ Nx : Hp → Prop, (∀ H', Nx H' → ∃ m', m' < m ∧ W (i + 1) m' H') ∧ ∀ x H', J.yld i H x H' → g x (wipe σ vs) H' fun σ2 H2 => wipe σ2 vs = wipe σ vs ∧ tt σ2 H2 fun b H3 =>
    if b = true then te σ2 H3 fun y H4 => ∃ acc, H4 D = some (.lst acc) ∧ acc.length < sizeLine ∧ Nx (upd H4 D (.lst (acc ++ [y]))) else Nx H3)) : tLc wi g tt te vs σ H Q := h
/-- what a turn has behind it: the list so far, all else as it was -/
structure Lcw {β : Type} [Rep β] (H : Hp) (M : Addr → Prop) (f : Nat → β) (D : Addr) (i : Nat) (H' : Hp) : Prop where
  s : Same H H'
  n : H D = none
  l : ∃ xs, H' D = some (.lst xs) ∧ All2 (rep (off H' (wth M D))) xs ((List.range i).map f)
theorem Lcw.snoc {β : Type} [Rep β] {H : Hp} {M : Addr → Prop} {f : Nat → β} {D : Addr} {i : Nat} {H1 H2 : Hp} {v : V} (L : Lcw H M f D i H1) (hz : i < 1000000) (s : Same H1 H2) (r : rep (off H2 (wth M D)) v (f i)) :
    ∃ acc, H2 D = some (.lst acc) ∧ acc.length < sizeLine ∧ Lcw H M f D (i + 1) (upd H2 D (.lst (acc ++ [v]))) := by
  obtain ⟨xs, e, a⟩ := L.l
  have hl := a.len
  rw [List.length_map, List.length_range] at hl
  refine ⟨xs, s _ _ e, Nat.lt_of_lt_of_le (hl ▸ hz) (by decide), same_mut (L.s.trans s) L.n, L.n, _, upd_same, ?_⟩
  rw [off_upd wth_l, List.range_succ, List.map_append]
  exact (all2_mono (off_mono s) a).snoc r
theorem Lcw.start {β : Type} [Rep β] {H : Hp} {M : Addr → Prop} {f : Nat → β} {D : Addr} (n : H D = none) : Lcw H M f D 0 (upd H D (.lst [])) := ⟨same_new n, n, [], upd_same, trivial⟩
theorem Lcw.off {β : Type} [Rep β] {H : Hp} {M : Addr → Prop} {f : Nat → β} {D : Addr} {i : Nat} {H' : Hp} (L : Lcw H M f D i H') : Same (off H M) (off H' (wth M D)) := off_imp L.s fun a h => by
  rcases h with h | h
  · exact .inl h
  · exact .inr (h ▸ L.n)
/-- [e for i in range(n)], e by its value; M: what no item may lean on -/
theorem lcR {β : Type} [Rep β] {n : Nat} {j : Nat} {te : TE} {vs : List Nat} (M : Addr → Prop) (f : Nat → β) (hz : n ≤ 1000000) (hM : ∀ a, M a → dom H a) (hw : ∀ x, wipe ((wipe σ vs).set j (some x)) vs = wipe σ vs)
    (he : ∀ (i : Nat) H1 M1, i < n → Same H H1 → Same (off H M) (off H1 M1) → (∀ a, M1 a → dom H1 a) → ∀ R : VK, (∀ v H2, Same H1 H2 → rep (off H2 M1) v (f i) → R v H2) → te ((wipe σ vs).set j (some (.int (i : Int)))) H1 R)
    (hd : NewL M H ((List.range n).map f) Q) : ∀ D, H D = none → ∃ W : Nat → Nat → Hp → Prop, (∃ m, W 0 m (upd H D (.lst []))) ∧ ∀ i m H, W i m H →
      ((Itr 0 n).stop i H ∧ Q (.ref D) H) ∨ ((Itr 0 n).go i H ∧ ∃ Nx : Hp → Prop, (∀ H', Nx H' → ∃ m', m' < m ∧ W (i + 1) m' H') ∧ ∀ x H', (Itr 0 n).yld i H x H' → gName j x (wipe σ vs) H' fun σ2 H2 => wipe σ2 vs = wipe σ vs ∧ tYes σ2 H2 fun b H3 =>
        if b = true then te σ2 H3 fun y H4 => ∃ acc, H4 D = some (.lst acc) ∧ acc.length < sizeLine ∧ Nx (upd H4 D (.lst (acc ++ [y]))) else Nx H3) := fun D hD =>
  lc_range (lo := 0) (n := n) (Lcw H M f D) (.start hD) (fun i H1 hi L => by
    refine ⟨hw _, ?_⟩
    have e0 : (0 : Int) + (i : Int) = (i : Int) := Int.zero_add _
    rw [e0]
    refine w_yes ?_
    refine iteT ?_
    refine he i H1 (wth M D) hi L.s L.off (fun a h => ?_) _ fun v H2 s r => L.snoc (by omega) s r
    rcases h with h | h
    · exact dom_same L.s (hM a h)
    · obtain ⟨xs, e, _⟩ := L.l
      exact h ▸ dom_of e) fun H' L => by
    obtain ⟨xs, e, a⟩ := L.l
    exact hd D xs H' L.s L.n e a
/-- [e for x in list] -/
theorem lcL {β : Type} [Rep β] {p : Addr} {xs : List V} {j : Nat} {te : TE} {vs : List Nat} (M : Addr → Prop) (f : Nat → β) (hx : SqL K H p xs) (hz : xs.length ≤ 1000000) (hM : ∀ a, M a → dom H a) (hw : ∀ x, wipe ((wipe σ vs).set j (some x)) vs = wipe σ vs)
    (he : ∀ (i : Nat) x H1 M1, xs[i]? = some x → Same H H1 → Same (off H M) (off H1 M1) → (∀ a, M1 a → dom H1 a) → ∀ R : VK, (∀ v H2, Same H1 H2 → rep (off H2 M1) v (f i) → R v H2) → te ((wipe σ vs).set j (some x)) H1 R)
    (hd : NewL M H ((List.range xs.length).map f) Q) : ∀ D, H D = none → ∃ W : Nat → Nat → Hp → Prop, (∃ m, W 0 m (upd H D (.lst []))) ∧ ∀ i m H, W i m H →
      ((Itl K p).stop i H ∧ Q (.ref D) H) ∨ ((Itl K p).go i H ∧ ∃ Nx : Hp → Prop, (∀ H', Nx H' → ∃ m', m' < m ∧ W (i + 1) m' H') ∧ ∀ x H', (Itl K p).yld i H x H' → gName j x (wipe σ vs) H' fun σ2 H2 => wipe σ2 vs = wipe σ vs ∧ tYes σ2 H2 fun b H3 =>
        if b = true then te σ2 H3 fun y H4 => ∃ acc, H4 D = some (.lst acc) ∧ acc.length < sizeLine ∧ Nx (upd H4 D (.lst (acc ++ [y]))) else Nx H3) := fun D hD =>
  lc_list (xs := xs) (Lcw H M f D) (.start hD) (fun i H1 _ L => L.s.seq hx) (fun i x H1 hi L => by
    refine ⟨hw _, ?_⟩
    refine w_yes ?_
    refine iteT ?_
    refine he i x H1 (wth M D) hi L.s L.off (fun a h => ?_) _ fun v H2 s r => L.snoc (by have := (List.getElem?_eq_some_iff.mp hi).1; omega) s r
    rcases h with h | h
    · exact dom_same L.s (hM a h)
    · obtain ⟨ys, e, _⟩ := L.l
      exact h ▸ dom_of e) fun H' L => by
    obtain ⟨ys, e, a⟩ := L.l
    exact hd D ys H' L.s L.n e a
end
/-! ### places -/
theorem tv_0 {v : V} {σ : L2.St} {H : Hp} {Q : VK} (q : Q v H) : tVar 0 (some v :: σ) H Q := ⟨v, rfl, q⟩
theorem nv_0 {a : Option V} {v : V} {σ : L2.St} {H : Hp} {R : L2.St → Hp → Prop} (h : R (some v :: σ) H) : gName 0 v (a :: σ) H R := h
theorem av_0 {x : V} {σ : L2.St} {H : Hp} {te : TE} {ti : TIp} {nx bk ct : L2.St → Hp → Prop} {rt : VK} (q : te (some x :: σ) H fun y H1 => ti x y H1 fun z H2 => nx (some z :: σ) H2) : tAug 0 te ti ⟨nx, rt, bk, ct⟩ (some x :: σ) H := ⟨x, rfl, q⟩
theorem tv_1 {a0 : Option V} {v : V} {σ : L2.St} {H : Hp} {Q : VK} (q : Q v H) : tVar 1 (a0 :: some v :: σ) H Q := ⟨v, rfl, q⟩
theorem nv_1 {a0 : Option V} {a : Option V} {v : V} {σ : L2.St} {H : Hp} {R : L2.St → Hp → Prop} (h : R (a0 :: some v :: σ) H) : gName 1 v (a0 :: a :: σ) H R := h
theorem av_1 {a0 : Option V} {x : V} {σ : L2.St} {H : Hp} {te : TE} {ti : TIp} {nx bk ct : L2.St → Hp → Prop} {rt : VK} (q : te (a0 :: some x :: σ) H fun y H1 => ti x y H1 fun z H2 => nx (a0 :: some z :: σ) H2) : tAug 1 te ti ⟨nx, rt, bk, ct⟩ (a0 :: some x :: σ) H := ⟨x, rfl, q⟩
theorem tv_2 {a0 a1 : Option V} {v : V} {σ : L2.St} {H : Hp} {Q : VK} (q : Q v H) : tVar 2 (a0 :: a1 :: some v :: σ) H Q := ⟨v, rfl, q⟩
theorem nv_2 {a0 a1 : Option V} {a : Option V} {v : V} {σ : L2.St} {H : Hp} {R : L2.St → Hp → Prop} (h : R (a0 :: a1 :: some v :: σ) H) : gName 2 v (a0 :: a1 :: a :: σ) H R := h
theorem av_2 {a0 a1 : Option V} {x : V} {σ : L2.St} {H : Hp} {te : TE} {ti : TIp} {nx bk ct : L2.St → Hp → Prop} {rt : VK} (q : te (a0 :: a1 :: some x :: σ) H fun y H1 => ti x y H1 fun z H2 => nx (a0 :: a1 :: some z :: σ) H2) : tAug 2 te ti ⟨nx, rt, bk, ct⟩ (a0 :: a1 :: some x :: σ) H := ⟨x, rfl, q⟩
theorem tv_3 {a0 a1 a2 : Option V} {v : V} {σ : L2.St} {H : Hp} {Q : VK} (q : Q v H) : tVar 3 (a0 :: a1 :: a2 :: some v :: σ) H Q := ⟨v, rfl, q⟩
theorem nv_3 {a0 a1 a2 : Option V} {a : Option V} {v : V} {σ : L2.St} {H : Hp} {R : L2.St → Hp → Prop} (h : R (a0 :: a1 :: a2 :: some v :: σ) H) : gName 3 v (a0 :: a1 :: a2 :: a :: σ) H R := h
theorem av_3 {a0 a1 a2 : Option V} {x : V} {σ : L2.St} {H : Hp} {te : TE} {ti : TIp} {nx bk ct : L2.St → Hp → Prop} {rt : VK} (q : te (a0 :: a1 :: a2 :: some x :: σ) H fun y H1 => ti x y H1 fun z H2 => nx (a0 :: a1 :: a2 :: some z :: σ) H2) : tAug 3 te ti ⟨nx, rt, bk, ct⟩ (a0 :: a1 :: a2 :: some x :: σ) H := ⟨x, rfl, q⟩
theorem tv_4 {a0 a1 a2 a3 : Option V} {v : V} {σ : L2.St} {H : Hp} {Q : VK} (q : Q v H) : tVar 4 (a0 :: a1 :: a2 :: a3 :: some v :: σ) H Q := ⟨v, rfl, q⟩
theorem nv_4 {a0 a1 a2 a3 : Option V} {a : Option V} {v : V} {σ : L2.St} {H : Hp} {R : L2.St → Hp → Prop} (h : R (a0 :: a1 :: a2 :: a3 :: some v :: σ) H) : gName 4 v (a0 :: a1 :: a2 :: a3 :: a :: σ) H R := h
theorem av_4 {a0 a1 a2 a3 : Option V} {x : V} {σ : L2.St} {H : Hp} {te : TE} {ti : TIp} {nx bk ct : L2.St → Hp → Prop} {rt : VK} (q : te (a0 :: a1 :: a2 :: a3 :: some x :: σ) H fun y H1 => ti x y H1 fun z H2 => nx (a0 :: a1 :: a2 :: a3 :: some z :: σ) H2) : tAug 4 te ti ⟨nx, rt, bk, ct⟩ (a0 :: a1 :: a2 :: a3 :: some x :: σ) H := ⟨x, rfl, q⟩
theorem tv_5 {a0 a1 a2 a3 a4 : Option V} {v : V} {σ : L2.St} {H : Hp} {Q : VK} (q : Q v H) : tVar 5 (a0 :: a1 :: a2 :: a3 :: a4 :: some v :: σ) H Q := ⟨v, rfl, q⟩
theorem nv_5 {a0 a1 a2 a3 a4 : Option V} {a : Option V} {v : V} {σ : L2.St} {H : Hp} {R : L2.St → Hp → Prop} (h : R (a0 :: a1 :: a2 :: a3 :: a4 :: some v :: σ) H) : gName 5 v (a0 :: a1 :: a2 :: a3 :: a4 :: a :: σ) H R := h
theorem av_5 {a0 a1 a2 a3 a4 : Option V} {x : V} {σ : L2.St} {H : Hp} {te : TE} {ti : TIp} {nx bk ct : L2.St → Hp → Prop} {rt : VK} (q : te (a0 :: a1 :: a2 :: a3 :: a4 :: some x :: σ) H fun y H1 => ti x y H1 fun z H2 => nx (a0 :: a1 :: a2 :: a3 :: a4 :: some z :: σ) H2) : tAug 5 te ti ⟨nx, rt, bk, ct⟩ (a0 :: a1 :: a2 :: a3 :: a4 :: some x :: σ) H := ⟨x, rfl, q⟩
theorem tv_6 {a0 a1 a2 a3 a4 a5 : Option V} {v : V} {σ : L2.St} {H : Hp} {Q : VK} (q : Q v H) : tVar 6 (a0 :: a1 :: a2 :: a3 :: a4 :: a5 :: some v :: σ) H Q := ⟨v, rfl, q⟩
theorem nv_6 {a0 a1 a2 a3 a4 a5 : Option V} {a : Option V} {v : V} {σ : L2.St} {H : Hp} {R : L2.St → Hp → Prop} (h : R (a0 :: a1 :: a2 :: a3 :: a4 :: a5 :: some v :: σ) H) : gName 6 v (a0 :: a1 :: a2 :: a3 :: a4 :: a5 :: a :: σ) H R := h
theorem av_6 {a0 a1 a2 a3 a4 a5 : Option V} {x : V} {σ : L2.St} {H : Hp} {te : TE} {ti : TIp} {nx bk ct : L2.St → Hp → Prop} {rt : VK} (q : te (a0 :: a1 :: a2 :: a3 :: a4 :: a5 :: some x :: σ) H fun y H1 => ti x y H1 fun z H2 => nx (a0 :: a1 :: a2 :: a3 :: a4 :: a5 :: some z :: σ) H2) : tAug 6 te ti ⟨nx, rt, bk, ct⟩ (a0 :: a1 :: a2 :: a3 :: a4 :: a5 :: some x :: σ) H := ⟨x, rfl, q⟩
theorem tv_7 {a0 a1 a2 a3 a4 a5 a6 : Option V} {v : V} {σ : L2.St} {H : Hp} {Q : VK} (q : Q v H) : tVar 7 (a0 :: a1 :: a2 :: a3 :: a4 :: a5 :: a6 :: some v :: σ) H Q := ⟨v, rfl, q⟩
theorem nv_7 {a0 a1 a2 a3 a4 a5 a6 : Option V} {a : Option V} {v : V} {σ : L2.St} {H : Hp} {R : L2.St → Hp → Prop} (h : R (a0 :: a1 :: a2 :: a3 :: a4 :: a5 :: a6 :: some v :: σ) H) : gName 7 v (a0 :: a1 :: a2 :: a3 :: a4 :: a5 :: a6 :: a :: σ) H R := h
theorem av_7 {a0 a1 a2 a3 a4 a5 a6 : Option V} {x : V} {σ : L2.St} {H : Hp} {te : TE} {ti : TIp} {nx bk ct : L2.St → Hp → Prop} {rt : VK} (q : te (a0 :: a1 :: a2 :: a3 :: a4 :: a5 :: a6 :: some x :: σ) H fun y H1 => ti x y H1 fun z H2 => nx (a0 :: a1 :: a2 :: a3 :: a4 :: a5 :: a6 :: some z :: σ) H2) : tAug 7 te ti ⟨nx, rt, bk, ct⟩ (a0 :: a1 :: a2 :: a3 :: a4 :: a5 :: a6 :: some x :: σ) H := ⟨x, rfl, q⟩
theorem tv_8 {a0 a1 a2 a3 a4 a5 a6 a7 : Option V} {v : V} {σ : L2.St} {H : Hp} {Q : VK} (q : Q v H) : tVar 8 (a0 :: a1 :: a2 :: a3 :: a4 :: a5 :: a6 :: a7 :: some v :: σ) H Q := ⟨v, rfl, q⟩
theorem nv_8 {a0 a1 a2 a3 a4 a5 a6 a7 : Option V} {a : Option V} {v : V} {σ : L2.St} {H : Hp} {R : L2.St → Hp → Prop} (h : R (a0 :: a1 :: a2 :: a3 :: a4 :: a5 :: a6 :: a7 :: some v :: σ) H) : gName 8 v (a0 :: a1 :: a2 :: a3 :: a4 :: a5 :: a6 :: a7 :: a :: σ) H R := h
theorem av_8 {a0 a1 a2 a3 a4 a5 a6 a7 : Option V} {x : V} {σ : L2.St} {H : Hp} {te : TE} {ti : TIp} {nx bk ct : L2.St → Hp → Prop} {rt : VK} (q : te (a0 :: a1 :: a2 :: a3 :: a4 :: a5 :: a6 :: a7 :: some x :: σ) H fun y H1 => ti x y H1 fun z H2 => nx (a0 :: a1 :: a2 :: a3 :: a4 :: a5 :: a6 :: a7 :: some z :: σ) H2) : tAug 8 te ti ⟨nx, rt, bk, ct⟩ (a0 :: a1 :: a2 :: a3 :: a4 :: a5 :: a6 :: a7 :: some x :: σ) H := ⟨x, rfl, q⟩
theorem tv_9 {a0 a1 a2 a3 a4 a5 a6 a7 a8 : Option V} {v : V} {σ : L2.St} {H : Hp} {Q : VK} (q : Q v H) : tVar 9 (a0 :: a1 :: a2 :: a3 :: a4 :: a5 :: a6 :: a7 :: a8 :: some v :: σ) H Q := ⟨v, rfl, q⟩
theorem nv_9 {a0 a1 a2 a3 a4 a5 a6 a7 a8 : Option V} {a : Option V} {v : V} {σ : L2.St} {H : Hp} {R : L2.St → Hp → Prop} (h : R (a0 :: a1 :: a2 :: a3 :: a4 :: a5 :: a6 :: a7 :: a8 :: some v :: σ) H) : gName 9 v (a0 :: a1 :: a2 :: a3 :: a4 :: a5 :: a6 :: a7 :: a8 :: a :: σ) H R := h
theorem av_9 {a0 a1 a2 a3 a4 a5 a6 a7 a8 : Option V} {x : V} {σ : L2.St} {H : Hp} {te : TE} {ti : TIp} {nx bk ct : L2.St → Hp → Prop} {rt : VK} (q : te (a0 :: a1 :: a2 :: a3 :: a4 :: a5 :: a6 :: a7 :: a8 :: some x :: σ) H fun y H1 => ti x y H1 fun z H2 => nx (a0 :: a1 :: a2 :: a3 :: a4 :: a5 :: a6 :: a7 :: a8 :: some z :: σ) H2) : tAug 9 te ti ⟨nx, rt, bk, ct⟩ (a0 :: a1 :: a2 :: a3 :: a4 :: a5 :: a6 :: a7 :: a8 :: some x :: σ) H := ⟨x, rfl, q⟩
theorem tv_10 {a0 a1 a2 a3 a4 a5 a6 a7 a8 a9 : Option V} {v : V} {σ : L2.St} {H : Hp} {Q : VK} (q : Q v H) : tVar 10 (a0 :: a1 :: a2 :: a3 :: a4 :: a5 :: a6 :: a7 :: a8 :: a9 :: some v :: σ) H Q := ⟨v, rfl, q⟩
theorem nv_10 {a0 a1 a2 a3 a4 a5 a6 a7 a8 a9 : Option V} {a : Option V} {v : V} {σ : L2.St} {H : Hp} {R : L2.St → Hp → Prop} (h : R (a0 :: a1 :: a2 :: a3 :: a4 :: a5 :: a6 :: a7 :: a8 :: a9 :: some v :: σ) H) : gName 10 v (a0 :: a1 :: a2 :: a3 :: a4 :: a5 :: a6 :: a7 :: a8 :: a9 :: a :: σ) H R := h
theorem av_10 {a0 a1 a2 a3 a4 a5 a6 a7 a8 a9 : Option V} {x : V} {σ : L2.St} {H : Hp} {te : TE} {ti : TIp} {nx bk ct : L2.St → Hp → Prop} {rt : VK} (q : te (a0 :: a1 :: a2 :: a3 :: a4 :: a5 :: a6 :: a7 :: a8 :: a9 :: some x :: σ) H fun y H1 => ti x y H1 fun z H2 => nx (a0 :: a1 :: a2 :: a3 :: a4 :: a5 :: a6 :: a7 :: a8 :: a9 :: some z :: σ) H2) : tAug 10 te ti ⟨nx, rt, bk, ct⟩ (a0 :: a1 :: a2 :: a3 :: a4 :: a5 :: a6 :: a7 :: a8 :: a9 :: some x :: σ) H := ⟨x, rfl, q⟩
theorem tv_11 {a0 a1 a2 a3 a4 a5 a6 a7 a8 a9 a10 : Option V} {v : V} {σ : L2.St} {H : Hp} {Q : VK} (q : Q v H) : tVar 11 (a0 :: a1 :: a2 :: a3 :: a4 :: a5 :: a6 :: a7 :: a8 :: a9 :: a10 :: some v :: σ) H Q := ⟨v, rfl, q⟩
theorem nv_11 {a0 a1 a2 a3 a4 a5 a6 a7 a8 a9 a10 : Option V} {a : Option V} {v : V} {σ : L2.St} {H : Hp} {R : L2.St → Hp → Prop} (h : R (a0 :: a1 :: a2 :: a3 :: a4 :: a5 :: a6 :: a7 :: a8 :: a9 :: a10 :: some v :: σ) H) : gName 11 v (a0 :: a1 :: a2 :: a3 :: a4 :: a5 :: a6 :: a7 :: a8 :: a9 :: a10 :: a :: σ) H R := h
theorem av_11 {a0 a1 a2 a3 a4 a5 a6 a7 a8 a9 a10 : Option V} {x : V} {σ : L2.St} {H : Hp} {te : TE} {ti : TIp} {nx bk ct : L2.St → Hp → Prop} {rt : VK} (q : te (a0 :: a1 :: a2 :: a3 :: a4 :: a5 :: a6 :: a7 :: a8 :: a9 :: a10 :: some x :: σ) H fun y H1 => ti x y H1 fun z H2 => nx (a0 :: a1 :: a2 :: a3 :: a4 :: a5 :: a6 :: a7 :: a8 :: a9 :: a10 :: some z :: σ) H2) : tAug 11 te ti ⟨nx, rt, bk, ct⟩ (a0 :: a1 :: a2 :: a3 :: a4 :: a5 :: a6 :: a7 :: a8 :: a9 :: a10 :: some x :: σ) H := ⟨x, rfl, q⟩
theorem tv_12 {a0 a1 a2 a3 a4 a5 a6 a7 a8 a9 a10 a11 : Option V} {v : V} {σ : L2.St} {H : Hp} {Q : VK} (q : Q v H) : tVar 12 (a0 :: a1 :: a2 :: a3 :: a4 :: a5 :: a6 :: a7 :: a8 :: a9 :: a10 :: a11 :: some v :: σ) H Q := ⟨v, rfl, q⟩
theorem nv_12 {a0 a1 a2 a3 a4 a5 a6 a7 a8 a9 a10 a11 : Option V} {a : Option V} {v : V} {σ : L2.St} {H : Hp} {R : L2.St → Hp → Prop} (h : R (a0 :: a1 :: a2 :: a3 :: a4 :: a5 :: a6 :: a7 :: a8 :: a9 :: a10 :: a11 :: some v :: σ) H) : gName 12 v (a0 :: a1 :: a2 :: a3 :: a4 :: a5 :: a6 :: a7 :: a8 :: a9 :: a10 :: a11 :: a :: σ) H R := h
theorem av_12 {a0 a1 a2 a3 a4 a5 a6 a7 a8 a9 a10 a11 : Option V} {x : V} {σ : L2.St} {H : Hp} {te : TE} {ti : TIp} {nx bk ct : L2.St → Hp → Prop} {rt : VK} (q : te (a0 :: a1 :: a2 :: a3 :: a4 :: a5 :: a6 :: a7 :: a8 :: a9 :: a10 :: a11 :: some x :: σ) H fun y H1 => ti x y H1 fun z H2 => nx (a0 :: a1 :: a2 :: a3 :: a4 :: a5 :: a6 :: a7 :: a8 :: a9 :: a10 :: a11 :: some z :: σ) H2) : tAug 12 te ti ⟨nx, rt, bk, ct⟩ (a0 :: a1 :: a2 :: a3 :: a4 :: a5 :: a6 :: a7 :: a8 :: a9 :: a10 :: a11 :: some x :: σ) H := ⟨x, rfl, q⟩
theorem tv_13 {a0 a1 a2 a3 a4 a5 a6 a7 a8 a9 a10 a11 a12 : Option V} {v : V} {σ : L2.St} {H : Hp} {Q : VK} (q : Q v H) : tVar 13 (a0 :: a1 :: a2 :: a3 :: a4 :: a5 :: a6 :: a7 :: a8 :: a9 :: a10 :: a11 :: a12 :: some v :: σ) H Q := ⟨v, rfl, q⟩
theorem nv_13 {a0 a1 a2 a3 a4 a5 a6 a7 a8 a9 a10 a11 a12 : Option V} {a : Option V} {v : V} {σ : L2.St} {H : Hp} {R : L2.St → Hp → Prop} (h : R (a0 :: a1 :: a2 :: a3 :: a4 :: a5 :: a6 :: a7 :: a8 :: a9 :: a10 :: a11 :: a12 :: some v :: σ) H) : gName 13 v (a0 :: a1 :: a2 :: a3 :: a4 :: a5 :: a6 :: a7 :: a8 :: a9 :: a10 :: a11 :: a12 :: a :: σ) H R := h
theorem av_13 {a0 a1 a2 a3 a4 a5 a6 a7 a8 a9 a10 a11 a12 : Option V} {x : V} {σ : L2.St} {H : Hp} {te : TE} {ti : TIp} {nx bk ct : L2.St → Hp → Prop} {rt : VK} (q : te (a0 :: a1 :: a2 :: a3 :: a4 :: a5 :: a6 :: a7 :: a8 :: a9 :: a10 :: a11 :: a12 :: some x :: σ) H fun y H1 => ti x y H1 fun z H2 => nx (a0 :: a1 :: a2 :: a3 :: a4 :: a5 :: a6 :: a7 :: a8 :: a9 :: a10 :: a11 :: a12 :: some z :: σ) H2) : tAug 13 te ti ⟨nx, rt, bk, ct⟩ (a0 :: a1 :: a2 :: a3 :: a4 :: a5 :: a6 :: a7 :: a8 :: a9 :: a10 :: a11 :: a12 :: some x :: σ) H := ⟨x, rfl, q⟩
theorem tv_14 {a0 a1 a2 a3 a4 a5 a6 a7 a8 a9 a10 a11 a12 a13 : Option V} {v : V} {σ : L2.St} {H : Hp} {Q : VK} (q : Q v H) : tVar 14 (a0 :: a1 :: a2 :: a3 :: a4 :: a5 :: a6 :: a7 :: a8 :: a9 :: a10 :: a11 :: a12 :: a13 :: some v :: σ) H Q := ⟨v, rfl, q⟩
theorem nv_14 {a0 a1 a2 a3 a4 a5 a6 a7 a8 a9 a10 a11 a12 a13 : Option V} {a : Option V} {v : V} {σ : L2.St} {H : Hp} {R : L2.St → Hp → Prop} (h : R (a0 :: a1 :: a2 :: a3 :: a4 :: a5 :: a6 :: a7 :: a8 :: a9 :: a10 :: a11 :: a12 :: a13 :: some v :: σ) H) : gName 14 v (a0 :: a1 :: a2 :: a3 :: a4 :: a5 :: a6 :: a7 :: a8 :: a9 :: a10 :: a11 :: a12 :: a13 :: a :: σ) H R := h
theorem av_14 {a0 a1 a2 a3 a4 a5 a6 a7 a8 a9 a10 a11 a12 a13 : Option V} {x : V} {σ : L2.St} {H : Hp} {te : TE} {ti : TIp} {nx bk ct : L2.St → Hp → Prop} {rt : VK} (q : te (a0 :: a1 :: a2 :: a3 :: a4 :: a5 :: a6 :: a7 :: a8 :: a9 :: a10 :: a11 :: a12 :: a13 :: some x :: σ) H fun y H1 => ti x y H1 fun z H2 => nx (a0 :: a1 :: a2 :: a3 :: a4 :: a5 :: a6 :: a7 :: a8 :: a9 :: a10 :: a11 :: a12 :: a13 :: some z :: σ) H2) : tAug 14 te ti ⟨nx, rt, bk, ct⟩ (a0 :: a1 :: a2 :: a3 :: a4 :: a5 :: a6 :: a7 :: a8 :: a9 :: a10 :: a11 :: a12 :: a13 :: some x :: σ) H := ⟨x, rfl, q⟩
theorem tv_15 {a0 a1 a2 a3 a4 a5 a6 a7 a8 a9 a10 a11 a12 a13 a14 : Option V} {v : V} {σ : L2.St} {H : Hp} {Q : VK} (q : Q v H) : tVar 15 (a0 :: a1 :: a2 :: a3 :: a4 :: a5 :: a6 :: a7 :: a8 :: a9 :: a10 :: a11 :: a12 :: a13 :: a14 :: some v :: σ) H Q := ⟨v, rfl, q⟩
theorem nv_15 {a0 a1 a2 a3 a4 a5 a6 a7 a8 a9 a10 a11 a12 a13 a14 : Option V} {a : Option V} {v : V} {σ : L2.St} {H : Hp} {R : L2.St → Hp → Prop} (h : R (a0 :: a1 :: a2 :: a3 :: a4 :: a5 :: a6 :: a7 :: a8 :: a9 :: a10 :: a11 :: a12 :: a13 :: a14 :: some v :: σ) H) : gName 15 v (a0 :: a1 :: a2 :: a3 :: a4 :: a5 :: a6 :: a7 :: a8 :: a9 :: a10 :: a11 :: a12 :: a13 :: a14 :: a :: σ) H R := h
theorem av_15 {a0 a1 a2 a3 a4 a5 a6 a7 a8 a9 a10 a11 a12 a13 a14 : Option V} {x : V} {σ : L2.St} {H : Hp} {te : TE} {ti : TIp} {nx bk ct : L2.St → Hp → Prop} {rt : VK} (q : te (a0 :: a1 :: a2 :: a3 :: a4 :: a5 :: a6 :: a7 :: a8 :: a9 :: a10 :: a11 :: a12 :: a13 :: a14 :: some x :: σ) H fun y H1 => ti x y H1 fun z H2 => nx (a0 :: a1 :: a2 :: a3 :: a4 :: a5 :: a6 :: a7 :: a8 :: a9 :: a10 :: a11 :: a12 :: a13 :: a14 :: some z :: σ) H2) : tAug 15 te ti ⟨nx, rt, bk, ct⟩ (a0 :: a1 :: a2 :: a3 :: a4 :: a5 :: a6 :: a7 :: a8 :: a9 :: a10 :: a11 :: a12 :: a13 :: a14 :: some x :: σ) H := ⟨x, rfl, q⟩
theorem row_at {r : Row} {i : Nat} {x : V} (h : (r.map V.int)[i]? = some x) : ∃ z, r[i]? = some z ∧ x = .int z := by
  rw [List.getElem?_map] at h
  cases e : r[i]? with
  | none => rw [e] at h; cases h
  | some z => rw [e] at h; cases h; exact ⟨z, rfl, rfl⟩
abbrev ends (Q : VK) : Ends := ⟨fun _ H' => Q .non H', Q, fun _ _ => False, fun _ _ => False⟩
structure Ctx where
  K : PySem.W.Frag
  cls : Str → Addr
/-- rows made of ints -/
theorem lcRr {n : Nat} {j : Nat} {te : TE} {vs : List Nat} {σ : L2.St} {H : Hp} {Q : VK} (f : Nat → Int) (hz : n ≤ 1000000) (hw : ∀ x, wipe ((wipe σ vs).set j (some x)) vs = wipe σ vs)
    (he : ∀ (i : Nat) H1, i < n → Same H H1 → ∀ R : VK, (∀ H2, Same H1 H2 → R (.int (f i)) H2) → te ((wipe σ vs).set j (some (.int (i : Int)))) H1 R)
    (hd : NewR H ((List.range n).map f) Q) : ∀ D, H D = none → ∃ W : Nat → Nat → Hp → Prop, (∃ m, W 0 m (upd H D (.lst []))) ∧ ∀ i m H, W i m H →
      ((Itr 0 n).stop i H ∧ Q (.ref D) H) ∨ ((Itr 0 n).go i H ∧ ∃ Nx : Hp → Prop, (∀ H', Nx H' → ∃ m', m' < m ∧ W (i + 1) m' H') ∧ ∀ x H', (Itr 0 n).yld i H x H' → gName j x (wipe σ vs) H' fun σ2 H2 => wipe σ2 vs = wipe σ vs ∧ tYes σ2 H2 fun b H3 =>
        if b = true then te σ2 H3 fun y H4 => ∃ acc, H4 D = some (.lst acc) ∧ acc.length < sizeLine ∧ Nx (upd H4 D (.lst (acc ++ [y]))) else Nx H3) :=
  lcR (dom H) f hz (fun _ h => h) hw (fun i H1 M1 hi s _ _ R k => he i H1 hi s R fun H2 s2 => k _ H2 s2 rfl) hd.l
theorem lcLr {K : PySem.W.Frag} {p : Addr} {xs : List V} {j : Nat} {te : TE} {vs : List Nat} {σ : L2.St} {H : Hp} {Q : VK} (f : Nat → Int) (hx : SqL K H p xs) (hz : xs.length ≤ 1000000) (hw : ∀ x, wipe ((wipe σ vs).set j (some x)) vs = wipe σ vs)
    (he : ∀ (i : Nat) x H1, xs[i]? = some x → Same H H1 → ∀ R : VK, (∀ H2, Same H1 H2 → R (.int (f i)) H2) → te ((wipe σ vs).set j (some x)) H1 R)
    (hd : NewR H ((List.range xs.length).map f) Q) : ∀ D, H D = none → ∃ W : Nat → Nat → Hp → Prop, (∃ m, W 0 m (upd H D (.lst []))) ∧ ∀ i m H, W i m H →
      ((Itl K p).stop i H ∧ Q (.ref D) H) ∨ ((Itl K p).go i H ∧ ∃ Nx : Hp → Prop, (∀ H', Nx H' → ∃ m', m' < m ∧ W (i + 1) m' H') ∧ ∀ x H', (Itl K p).yld i H x H' → gName j x (wipe σ vs) H' fun σ2 H2 => wipe σ2 vs = wipe σ vs ∧ tYes σ2 H2 fun b H3 =>
        if b = true then te σ2 H3 fun y H4 => ∃ acc, H4 D = some (.lst acc) ∧ acc.length < sizeLine ∧ Nx (upd H4 D (.lst (acc ++ [y]))) else Nx H3) :=
  lcL (dom H) f hx hz (fun _ h => h) hw (fun i x H1 M1 hi s _ _ R k => he i x H1 hi s R fun H2 s2 => k _ H2 s2 rfl) hd.l
theorem map_at0 (r : Row) (f : Int → Int) : (List.range (r.map V.int).length).map (fun i => f (at0 r i)) = r.map f := by
  rw [List.length_map]
  apply List.ext_getElem?
  intro i
  rw [List.getElem?_map, List.getElem?_map, range_get]
  by_cases h : i < r.length
  · rw [if_pos h, at0_get h]
    rfl
  · rw [if_neg h, List.getElem?_eq_none (by omega)]
    rfl
theorem lenV {r : Row} : (r.map V.int).length = r.length := List.length_map ..
/-! ### more steps -/
section
variable {σ : L2.St} {H H' : Hp} {Q : VK} {ta tb te : TE} {x y v : V} {K : PySem.W.Frag}
theorem v_lst {a : TA} (h : a σ H fun xs H1 => xs.length ≤ sizeLine ∧ ∀ p, H1 p = none → Q (.ref p) (upd H1 p (.lst xs))) : tLst a σ H Q := h
theorem v_tup {a : TA} (h : a σ H fun xs H1 => xs.length ≤ sizeLine ∧ ∀ p, H1 p = none → Q (.ref p) (upd H1 p (.tup xs))) : tTup a σ H Q := h
theorem small (n : Nat) (h : n ≤ 1000000) : n ≤ sizeLine := Nat.le_trans h (by decide)
theorem flat_one {α : Type} (n : Nat) (a : α) : (List.replicate n [a]).flatten = List.replicate n a := by
  induction n with
  | zero => rfl
  | succ n ih => rw [List.replicate_succ, List.flatten_cons, ih]; rfl
theorem w_rep {l : Addr} {z : Int} {n : Nat} (h : H l = some (.lst [.int z])) (hn : n ≤ 1000000) (q : ∀ p, H p = none → Q (.ref p) (upd H p (.lst ((List.replicate n z).map V.int)))) : rRep (.ref l) (.int (n : Int)) H Q := by
  refine ⟨l, n, [.int z], rfl, rfl, h, by omega, by omega, small _ (by simp; omega), fun p hp => ?_⟩
  have e : (List.replicate (n : Int).toNat [V.int z]).flatten = (List.replicate n z).map V.int := by
    rw [flat_one, List.map_replicate]
    rfl
  rw [e]
  exact q p hp
theorem w_cat {l b : Addr} {xs zs : List V} (h1 : H l = some (.lst xs)) (h2 : H b = some (.lst zs)) (hz : xs.length + zs.length ≤ 1000000) (q : ∀ p, H p = none → Q (.ref p) (upd H p (.lst (xs ++ zs)))) : rCat (.ref l) (.ref b) H Q := ⟨l, b, xs, zs, rfl, rfl, h1, h2, small _ hz, q⟩
theorem free_of {l p : Addr} {o : HO} (hl : H l = none) (h : upd H l o p = none) : H p = none := (same_new hl).free h
/-- a list of lists that stands in the heap -/
theorem mat_at {m : Mat} {xs : List V} {i : Nat} (h : All2 (rep H) xs m) (hi : i < m.length) : ∃ q, xs[i]? = some (.ref q) ∧ H q = some (.lst ((m.getD i []).map V.int)) := by
  have e : m[i]? = some (m.getD i []) := by
    rw [List.getD_eq_getElem?_getD, List.getElem?_eq_getElem hi]
    rfl
  obtain ⟨x, h1, h2⟩ := h.get e
  obtain ⟨q, rfl, hq⟩ := rep_row.mp h2
  exact ⟨q, h1, hq⟩
/-- all but l is as it was -/
def Chg (l : Addr) (H H' : Hp) : Prop := ∀ a o, a ≠ l → H a = some o → H' a = some o
theorem Chg.refl {l : Addr} (H : Hp) : Chg l H H := fun _ _ _ h => h
theorem Chg.trans {l : Addr} {H1 H2 H3 : Hp} (a : Chg l H1 H2) (b : Chg l H2 H3) : Chg l H1 H3 := fun x o n h => b x o n (a x o n h)
theorem Chg.of {l : Addr} (s : Same H H') : Chg l H H' := fun a o _ h => s a o h
theorem chg_upd {l : Addr} {o : HO} : Chg l H (upd H l o) := fun a u n h => by rw [upd_ne n]; exact h
theorem Chg.off {l : Addr} {M : Addr → Prop} (c : Chg l H H') (h : M l) : Same (off H M) (off H' M) := fun a o e => by
  obtain ⟨h1, h2⟩ := off_some.mp e
  exact off_in h1 (c a o (fun z => h1 (z ▸ h)) h2)
theorem Chg.dom {l a : Addr} (c : Chg l H H') (hl : dom H' l) (h : dom H a) : dom H' a := by
  by_cases e : a = l
  · exact e ▸ hl
  · unfold G.dom at *
    cases q : H a with
    | none => exact absurd q h
    | some o => rw [c a o e q]; exact fun z => by cases z
theorem ne_in {i : Int} : V.int i ≠ .non := fun h => by cases h
theorem ne_rn {p : Addr} : V.ref p ≠ .non := fun h => by cases h
theorem ne_bn {b : Bool} : V.bl b ≠ .non := fun h => by cases h
def optV : Option Nat → V
  | none => .non
  | some b => .int (b : Int)
end
/-- [list(row) for row in rows] -/
theorem lcCopy {K : PySem.W.Frag} {p : Addr} {xs : List V} {m : Mat} {j : Nat} {vs : List Nat} {σ : L2.St} {H : Hp} {Q : VK} (M : Addr → Prop) (hx : H p = some (.lst xs)) (ha : All2 (rep H) xs m) (hz : m.length ≤ 1000000) (hM : ∀ a, M a → dom H a)
    (hw : ∀ x, wipe ((wipe σ vs).set j (some x)) vs = wipe σ vs) (hv : ∀ x : V, ((wipe σ vs).set j (some x))[j]? = some (some x)) (hd : NewL M H m Q) : ∀ D, H D = none → ∃ W : Nat → Nat → Hp → Prop, (∃ m, W 0 m (upd H D (.lst []))) ∧ ∀ i m H, W i m H →
      ((Itl K p).stop i H ∧ Q (.ref D) H) ∨ ((Itl K p).go i H ∧ ∃ Nx : Hp → Prop, (∀ H', Nx H' → ∃ m', m' < m ∧ W (i + 1) m' H') ∧ ∀ x H', (Itl K p).yld i H x H' → gName j x (wipe σ vs) H' fun σ2 H2 => wipe σ2 vs = wipe σ vs ∧ tYes σ2 H2 fun b H3 =>
        if b = true then tCB (rLstG K) (tCons (tVar j) tNil) σ2 H3 fun y H4 => ∃ acc, H4 D = some (.lst acc) ∧ acc.length < sizeLine ∧ Nx (upd H4 D (.lst (acc ++ [y]))) else Nx H3) := by
  have hl := ha.len
  refine lcL M (fun i => m.getD i []) (SqL.of hx) (by omega) hM hw (fun i x H1 M1 hi s _ dm R k => ?_) ?_
  · have hi2 := (List.getElem?_eq_some_iff.mp hi).1
    obtain ⟨q, h1, h2⟩ := mat_at ha (i := i) (by omega)
    rw [h1] at hi
    cases hi
    refine w_cb (w_cons (w_var (hv _) (w_nil ?_)))
    refine w_lst (s _ _ h2) fun l hl => ?_
    exact k _ _ (same_new hl) (rep_row_of (off_in (fun z => dm _ z hl) upd_same))
  · rw [hl, list_eq_range]
    exact hd
theorem w_ixTat {K : PySem.W.Frag} {p : Addr} {xs : List V} {v : V} {H : Hp} {Q : VK} (i : Nat) (z : Int) (hz : z = (i : Int)) (h : H p = some (.tup xs)) (e : xs[i]? = some v) (q : Q v H) : rIxGT K (.ref p) (.int z) H Q := ⟨p, xs, i, v, rfl, by rw [hz], SqT.of h, e, q⟩
theorem w_ixAt {K : PySem.W.Frag} {p : Addr} {xs : List V} {v : V} {H : Hp} {Q : VK} (i : Nat) (z : Int) (hz : z = (i : Int)) (h : H p = some (.lst xs)) (e : xs[i]? = some v) (q : Q v H) : rIxG K (.ref p) (.int z) H Q := ⟨p, xs, i, v, rfl, by rw [hz], SqL.of h, e, q⟩
/-! ### comprehensions as they stand -/
section
variable {σ : L2.St} {H : Hp} {Q : VK} {K : PySem.W.Frag} {wi : TI} {te : TE} {vs : List Nat} {j : Nat}
theorem lcRT {β : Type} [Rep β] {n : Nat} (hi : ∀ R : It → Hp → Prop, R (Itr 0 n) H → wi σ H R) (M : Addr → Prop) (f : Nat → β) (hz : n ≤ 1000000) (hM : ∀ a, M a → dom H a) (hw : ∀ x, wipe ((wipe σ vs).set j (some x)) vs = wipe σ vs)
    (he : ∀ (i : Nat) H1 M1, i < n → Same H H1 → Same (off H M) (off H1 M1) → (∀ a, M1 a → dom H1 a) → ∀ R : VK, (∀ v H2, Same H1 H2 → rep (off H2 M1) v (f i) → R v H2) → te ((wipe σ vs).set j (some (.int (i : Int)))) H1 R)
    (hd : NewL M H ((List.range n).map f) Q) : tLc wi (gName j) tYes te vs σ H Q := v_lc (hi _ (lcR M f hz hM hw he hd))
theorem lcLT {β : Type} [Rep β] {p : Addr} {xs : List V} (hi : ∀ R : It → Hp → Prop, R (Itl K p) H → wi σ H R) (M : Addr → Prop) (f : Nat → β) (hx : SqL K H p xs) (hz : xs.length ≤ 1000000) (hM : ∀ a, M a → dom H a) (hw : ∀ x, wipe ((wipe σ vs).set j (some x)) vs = wipe σ vs)
    (he : ∀ (i : Nat) x H1 M1, xs[i]? = some x → Same H H1 → Same (off H M) (off H1 M1) → (∀ a, M1 a → dom H1 a) → ∀ R : VK, (∀ v H2, Same H1 H2 → rep (off H2 M1) v (f i) → R v H2) → te ((wipe σ vs).set j (some x)) H1 R)
    (hd : NewL M H ((List.range xs.length).map f) Q) : tLc wi (gName j) tYes te vs σ H Q := v_lc (hi _ (lcL M f hx hz hM hw he hd))
theorem lcRrT {n : Nat} (hi : ∀ R : It → Hp → Prop, R (Itr 0 n) H → wi σ H R) (f : Nat → Int) (hz : n ≤ 1000000) (hw : ∀ x, wipe ((wipe σ vs).set j (some x)) vs = wipe σ vs)
    (he : ∀ (i : Nat) H1, i < n → Same H H1 → ∀ R : VK, (∀ H2, Same H1 H2 → R (.int (f i)) H2) → te ((wipe σ vs).set j (some (.int (i : Int)))) H1 R)
    (hd : NewR H ((List.range n).map f) Q) : tLc wi (gName j) tYes te vs σ H Q := v_lc (hi _ (lcRr f hz hw he hd))
theorem lcLrT {p : Addr} {xs : List V} (hi : ∀ R : It → Hp → Prop, R (Itl K p) H → wi σ H R) (f : Nat → Int) (hx : SqL K H p xs) (hz : xs.length ≤ 1000000) (hw : ∀ x, wipe ((wipe σ vs).set j (some x)) vs = wipe σ vs)
    (he : ∀ (i : Nat) x H1, xs[i]? = some x → Same H H1 → ∀ R : VK, (∀ H2, Same H1 H2 → R (.int (f i)) H2) → te ((wipe σ vs).set j (some x)) H1 R)
    (hd : NewR H ((List.range xs.length).map f) Q) : tLc wi (gName j) tYes te vs σ H Q := v_lc (hi _ (lcLr f hx hz hw he hd))
theorem lcCopyT {p : Addr} {xs : List V} {m : Mat} (hi : ∀ R : It → Hp → Prop, R (Itl K p) H → wi σ H R) (M : Addr → Prop) (hx : H p = some (.lst xs)) (ha : All2 (rep H) xs m) (hz : m.length ≤ 1000000) (hM : ∀ a, M a → dom H a)
    (hw : ∀ x, wipe ((wipe σ vs).set j (some x)) vs = wipe σ vs) (hv : ∀ x : V, ((wipe σ vs).set j (some x))[j]? = some (some x)) (hd : NewL M H m Q) : tLc wi (gName j) tYes (tCB (rLstG K) (tCons (tVar j) tNil)) vs σ H Q := v_lc (hi _ (lcCopy M hx ha hz hM hw hv hd))
end
end G
end
section
set_option Elab.async false
set_option linter.all false
set_option maxRecDepth 100000
namespace G
open PySem L2 PyProof.Rows
/-! ### methods and classes -/
def AtM (K : PySem.W.Frag) (C : Addr) (x q : Str) (st : Stmt) : Prop := ∃ f fd, Fun K x q st f fd ∧ Meth K C x f
def Met (P : Program) (w : World) (K : PySem.W.Frag) (mg : Str → Option Value) (base : Heap) (C : Addr) (k : Nat) (x : Str) (sp : Sp) : Prop :=
  ∃ f fd ps, FnOk P w K mg base CX0 k f fd ps sp ∧ Meth K C x f ∧ Binds K fd ps []
/-- where __init__ of the class stands -/
def AtI (K : PySem.W.Frag) (mg : Str → Option Value) (C : Addr) (x q : Str) (st : Stmt) : Prop := ∃ f fd, Fun K "__init__" q st f fd ∧ Mk K C f ∧ mg x = some (.ref C)
def Mak (P : Program) (w : World) (K : PySem.W.Frag) (mg : Str → Option Value) (base : Heap) (C : Addr) (k : Nat) (x : Str) (sp : Sp) : Prop :=
  ∃ f fd ps, FnOk P w K mg base CX0 k f fd ps sp ∧ Mk K C f ∧ mg x = some (.ref C) ∧ Binds K fd ps []
section
variable {X : Cx}
theorem g_meth {pl : Sem Bool} {k : Nat} {C : Addr} {m : Str} {sp : Sp} {o e : Expr} {es : List Expr} {apos pos : Pos} {ta : TE} {t : TA} (he : PE X o ta) (c : Cls X.K C) (M : Met X.prog X.w X.K X.mg X.base C k m sp) (hr : Room k X.A) (ha : PA X (e :: es) t)
    (hst : starEach (e :: es) X.env = (false, eval e X.env) :: starEach es X.env := by rfl) (hpl : (backTo pos (starEach es X.env)).any (·.1) = false := by rfl)
    (ht : eval (.Call (.Attribute o m apos) (e :: es) [] pos) X.env = (do
      let ov ← eval o X.env
      standAt apos.atName
      let (f, first) ← holding [ov] (getMethod ov m pl)
      callWith pos f first (backTo pos (starEach (e :: es) X.env)) (backToKw pos (keywordEach [] X.env))) := by rfl) : PE X (.Call (.Attribute o m apos) (e :: es) [] pos) (tMeth C m sp [] E0 ta t) := by
  obtain ⟨f, fd, ps, F, hm, b⟩ := M
  exact pe_meth he c hm F hr b .nil pass0 ha hst hpl ht
theorem g_meth0 {pl : Sem Bool} {k : Nat} {C : Addr} {m : Str} {sp : Sp} {o : Expr} {apos pos : Pos} {ta : TE} (he : PE X o ta) (c : Cls X.K C) (M : Met X.prog X.w X.K X.mg X.base C k m sp) (hr : Room k X.A)
    (ht : eval (.Call (.Attribute o m apos) [] [] pos) X.env = (do
      let ov ← eval o X.env
      standAt apos.atName
      let (f, first) ← holding [ov] (getMethod ov m pl)
      callWith pos f first (backTo pos (starEach [] X.env)) (backToKw pos (keywordEach [] X.env))) := by rfl) : PE X (.Call (.Attribute o m apos) [] [] pos) (tMeth C m sp [] E0 ta tNil) := by
  obtain ⟨f, fd, ps, F, hm, b⟩ := M
  exact pe_meth0 he c hm F hr b .nil pass0 ht
theorem g_int {x : Str} {i : Int} {t : Tok} {pos : Pos} (hg : Gl X x) (hm : X.mg x = some (.int i t)) (hd : (x == ("__debug__" : Str)) = false := by decide) : PE X (.Name x pos) (tC (.int i)) := pe_glob hg hm ⟨_, rfl⟩ hd
theorem g_make {k : Nat} {C : Addr} {x : Str} {sp : Sp} {e : Expr} {es : List Expr} {p pos : Pos} {t : TA} (M : Mak X.prog X.w X.K X.mg X.base C k x sp) (hr : Room (k + 1) X.A) (hg : Gl X x) (ha : PA X (e :: es) t)
    (hdb : (x == ("__debug__" : Str)) = false := by decide) (he : starEach (e :: es) X.env = (false, eval e X.env) :: starEach es X.env := by rfl) (hpl : (backTo pos (starEach es X.env)).any (·.1) = false := by rfl) :
    PE X (.Call (.Name x p) (e :: es) [] pos) (tMake C sp [] E0 t) := by
  obtain ⟨f, fd, ps, F, mk, hm, b⟩ := M
  exact pe_make mk F hr hg hm b .nil pass0 ha hdb he hpl
end
section
variable {P : Program} {w : World} {K : PySem.W.Frag} {mg : Str → Option Value} {base : Heap}
theorem met_mk {C : Addr} {x q : Str} {st : Stmt} {N ps : List Str} {k : Nat} {sp : Sp} {t : TS} (A : AtM K C x q st) (S : FnScope N ps (defScope st)) (len : ∀ vs H Q E, sp vs H Q E → vs.length = ps.length)
    (hb : ∀ (kV doc pm : Value) (an : Option Addr) (cdv ct : Value) (us : List Value), us.length = ps.length → bindArgs (PySem.W.fnOf x q (defArgs st) (defBody st) (defScope st) .none kV doc pm an cdv ct) ⟨us, []⟩ = pure (ps.zip us))
    (hw : ∀ (f : Addr) (cdv : Value) (A : Around) (outer : List Env) (s : Shared) (H : Hp) (E : XK), Room k (A.deeper (envOfC q (defScope st) s.heap.objs.size f cdv)) →
      PSs (cxOf CX0 P w K mg base N q (defScope st) f cdv A outer s H E).nox (defBody st) t)
    (hd : ∀ vs H Q E, sp vs H Q E → t { nx := fun _ H' => Q .non H', rt := Q } (start N vs) H) : Met P w K mg base C (k + 1) x sp := by
  obtain ⟨f, fd, F, hm⟩ := A
  exact ⟨f, fd, ps, F.ok S len fun cdv A outer s H vs Q E hr h => ⟨t, hw f cdv A outer s H E hr, hd vs H Q E h⟩, hm, F.binds hb⟩
theorem mak_mk {C : Addr} {x q : Str} {st : Stmt} {N ps : List Str} {k : Nat} {sp : Sp} {t : TS} (A : AtI K mg C x q st) (S : FnScope N ps (defScope st)) (len : ∀ vs H Q E, sp vs H Q E → vs.length = ps.length)
    (hb : ∀ (kV doc pm : Value) (an : Option Addr) (cdv ct : Value) (us : List Value), us.length = ps.length → bindArgs (PySem.W.fnOf "__init__" q (defArgs st) (defBody st) (defScope st) .none kV doc pm an cdv ct) ⟨us, []⟩ = pure (ps.zip us))
    (hw : ∀ (f : Addr) (cdv : Value) (A : Around) (outer : List Env) (s : Shared) (H : Hp) (E : XK), Room k (A.deeper (envOfC q (defScope st) s.heap.objs.size f cdv)) →
      PSs (cxOf CX0 P w K mg base N q (defScope st) f cdv A outer s H E).nox (defBody st) t)
    (hd : ∀ vs H Q E, sp vs H Q E → t { nx := fun _ H' => Q .non H', rt := Q } (start N vs) H) : Mak P w K mg base C (k + 1) x sp := by
  obtain ⟨f, fd, F, mk, hm⟩ := A
  exact ⟨f, fd, ps, F.ok S len fun cdv A outer s H vs Q E hr h => ⟨t, hw f cdv A outer s H E hr, hd vs H Q E h⟩, mk, hm, F.binds hb⟩
theorem depth_of {k : Nat} {A : Around} (hr : Room k A) (hk : 32 ≤ k) : A.depth + 100 < recursionLimit := by
  have := hr.dp
  omega
end
end G
end
section
set_option Elab.async false
set_option linter.all false
set_option maxRecDepth 100000
namespace G
open PySem L2 PyProof.Rows
/-! ### == of data -/
class Dat (α : Type) [Rep α] [DecidableEq α] where
  dat : α → PyData
  dep : Nat
  dp : ∀ {K : PySem.W.Frag} {H : Hp} {v : V} {a : α}, rep H v a → Dp K H v (dat a)
  lay : ∀ a : α, (dat a).canLay0 = true ∧ (dat a).depth ≤ dep
  eqv : ∀ a b : α, PyData.eqv (dat a) (dat b) = decide (a = b)
instance : Dat Int where
  dat := .int
  dep := 0
  dp := fun {K H v a} h => by
    obtain rfl : v = .int a := h
    exact .int a
  lay := fun a => ⟨by simp only [PyData.canLay0], by simp only [PyData.depth]; exact Nat.le_refl _⟩
  eqv := fun a b => by
    simp only [PyData.eqv]
    by_cases h : a = b <;> simp [h]
section
variable {α : Type} [Rep α] [DecidableEq α] [Dat α]
theorem dpAll {K : PySem.W.Frag} {H : Hp} : ∀ {xs : List V} {as : List α}, All2 (rep H) xs as → DpAll K H xs (as.map Dat.dat)
  | [], [], _ => .nil
  | _ :: _, _ :: _, h => .cons (Dat.dp h.1) (dpAll h.2)
  | [], _ :: _, h => h.elim
  | _ :: _, [], h => h.elim
theorem layAll : ∀ as : List α, PyData.canLayAll0 (as.map Dat.dat) = true ∧ PyData.depthAll (as.map Dat.dat) ≤ Dat.dep α
  | [] => ⟨by simp only [List.map_nil, PyData.canLayAll0], by simp only [List.map_nil, PyData.depthAll]; exact Nat.zero_le _⟩
  | a :: as => by
    obtain ⟨h1, h2⟩ := Dat.lay a
    obtain ⟨h3, h4⟩ := layAll as
    simp only [List.map_cons, PyData.canLayAll0, PyData.depthAll]
    exact ⟨by rw [h1, h3]; rfl, Nat.max_le.mpr ⟨h2, h4⟩⟩
theorem eqvAll : ∀ as bs : List α, PyData.eqvAll (as.map Dat.dat) (bs.map Dat.dat) = decide (as = bs)
  | [], [] => by simp [PyData.eqvAll]
  | a :: as, b :: bs => by
    simp only [List.map_cons, PyData.eqvAll, Dat.eqv, eqvAll as bs]
    by_cases h1 : a = b <;> by_cases h2 : as = bs <;> simp [h1, h2]
  | [], _ :: _ => by simp [PyData.eqvAll]
  | _ :: _, [] => by simp [PyData.eqvAll]
instance : Dat (List α) where
  dat := fun as => .list (as.map Dat.dat)
  dep := Dat.dep α + 1
  dp := fun {K H v a} h => by
    obtain ⟨p, xs, rfl, e, r⟩ := h
    exact .lst (SqL.of e) (dpAll r)
  lay := fun a => by
    obtain ⟨h1, h2⟩ := layAll a
    simp only [PyData.canLay0, PyData.depth]
    exact ⟨h1, Nat.succ_le_succ h2⟩
  eqv := fun a b => by
    simp only [PyData.eqv]
    exact eqvAll a b
theorem shaped_of (a : α) (h : Dat.dep α ≤ 64) : SeqAt.shaped (Dat.dat a) = true := by
  obtain ⟨h1, h2⟩ := Dat.lay a
  unfold SeqAt.shaped
  rw [h1, decide_eq_true (Nat.le_trans h2 h)]
  rfl
variable {K : PySem.W.Frag} {H : Hp} {x y : V} {a b : α} {Q : VK}
theorem w_eqD (h1 : rep H x a) (h2 : rep H y b) (q : Q (.bl (decide (a = b))) H) (hd : Dat.dep α ≤ 64 := by decide) : rEqD K x y H Q :=
  ⟨Dat.dat a, Dat.dat b, Dat.dp h1, Dat.dp h2, shaped_of a hd, shaped_of b hd, by rw [Dat.eqv]; exact q⟩
theorem w_neD (h1 : rep H x a) (h2 : rep H y b) (q : Q (.bl (decide (a ≠ b))) H) (hd : Dat.dep α ≤ 64 := by decide) : rNeD K x y H Q :=
  ⟨Dat.dat a, Dat.dat b, Dat.dp h1, Dat.dp h2, shaped_of a hd, shaped_of b hd, by
    rw [Dat.eqv]
    have e : (!decide (a = b)) = decide (a ≠ b) := by by_cases h : a = b <;> simp [h]
    rw [e]
    exact q⟩
end
/-! ### isinstance -/
section
variable {K : PySem.W.Frag} {H : Hp} {Q : VK} {i : Int} {p : Addr} {xs cs : List V}
theorem w_isi (x : V) (t c : String) (b : Bool) (ty : TyX K H x (.type t)) (e : kitB t c = some b) (q : Q (.bl b) H) : rIsi K [x, .ty c] H Q := ⟨x, .ty c, .type t, .type c, b, rfl, .ty c, ty, kit_ty e, q⟩
theorem w_isiII (q : Q (.bl true) H) : rIsi K [.int i, .ty "int"] H Q := w_isi _ "int" "int" true (.base (.int i)) (by decide +kernel) q
theorem w_isiIB (q : Q (.bl false) H) : rIsi K [.int i, .ty "bool"] H Q := w_isi _ "int" "bool" false (.base (.int i)) (by decide +kernel) q
theorem w_isiBB {b : Bool} (q : Q (.bl true) H) : rIsi K [.bl b, .ty "bool"] H Q := w_isi _ "bool" "bool" true (.base (.bl b)) (by decide +kernel) q
theorem w_isiBI {b : Bool} (q : Q (.bl true) H) : rIsi K [.bl b, .ty "int"] H Q := w_isi _ "bool" "int" true (.base (.bl b)) (by decide +kernel) q
theorem w_isiLL (h : H p = some (.lst xs)) (q : Q (.bl true) H) : rIsi K [.ref p, .ty "list"] H Q := w_isi _ "list" "list" true (.base (.lst h)) (by decide +kernel) q
theorem w_isiNL (q : Q (.bl false) H) : rIsi K [.non, .ty "list"] H Q := w_isi _ "NoneType" "list" false (.base .non) (by decide +kernel) q
theorem w_isiLT {tp : Addr} (h : H p = some (.lst xs)) (ht : H tp = some (.tup [.ty "list", .ty "tuple"])) (q : Q (.bl true) H) : rIsiT K [.ref p, .ref tp] H Q :=
  ⟨.ref p, tp, _, .type "list", [.type "list", .type "tuple"], true, rfl, ht, .cons (.ty _) (.cons (.ty _) .nil), .base (.lst h), kitAny_cons (b := true) (kit_ty (by decide +kernel)) (fun z => by cases z) (fun _ => rfl), q⟩
/-! ### slices, sums, greatest -/
theorem v_sl {r : V → Option Int → Option Int → Hp → VK → Prop} {te : TE} {tl th : TO} {σ : L2.St} (h : te σ H fun x H1 => tl σ H1 fun l H2 => th σ H2 fun u H3 => r x l u H3 Q) : tSl r te tl th σ H Q := h
theorem v_noP {σ : L2.St} {R : Option Int → Hp → Prop} (h : R none H) : tNoPart σ H R := h
theorem v_part {σ : L2.St} {te : TE} {R : Option Int → Hp → Prop} (h : te σ H fun x H1 => ∃ i, x = .int i ∧ R (some i) H1) : tPart te σ H R := h
theorem w_sl {lo hi : Option Int} (h : H p = some (.lst xs)) (q : ∀ l, H l = none → Q (.ref l) (upd H l (.lst (cutV xs lo hi)))) : rSlL K (.ref p) lo hi H Q := ⟨p, xs, rfl, SqL.of h, q⟩
theorem cut_to (r : List V) (w : Nat) : cutV r none (some (w : Int)) = r.take w := by
  unfold cutV
  rw [HT.sIx_none, HT.sIx_nat, List.drop_zero, Nat.sub_zero]
  by_cases h : w ≤ r.length
  · rw [Nat.min_eq_left h]
  · rw [Nat.min_eq_right (by omega), List.take_of_length_le (Nat.le_refl _), List.take_of_length_le (by omega)]
theorem cut_from (r : List V) (w : Nat) : cutV r (some (w : Int)) none = r.drop w := by
  unfold cutV
  rw [HT.sIx_none, HT.sIx_nat]
  by_cases h : w ≤ r.length
  · rw [Nat.min_eq_left h, List.take_of_length_le (by rw [List.length_drop]; exact Nat.le_refl _)]
  · rw [Nat.min_eq_right (by omega), List.drop_eq_nil_of_le (Nat.le_refl _), List.drop_eq_nil_of_le (by omega), List.take_nil]
theorem w_sum {r : Row} (h : H p = some (.lst (r.map V.int))) (q : Q (.int r.sum) H) : rSum K [.ref p] H Q := ⟨p, r, rfl, SqL.of h, q⟩
theorem w_max {r : Row} (h : H p = some (.lst (r.map V.int))) (h0 : 0 < r.length) (q : ∀ m, m ∈ r → (∀ y, y ∈ r → y ≤ m) → Q (.int m) H) : rMax K [.ref p] H Q := ⟨p, r, rfl, SqL.of h, h0, q⟩
end
/-! ### comprehensions with a test -/
structure Lcf {β : Type} [Rep β] (H : Hp) (M : Addr → Prop) (f : Nat → Bool) (v : Nat → β) (D : Addr) (i : Nat) (H' : Hp) : Prop where
  s : Same H H'
  n : H D = none
  l : ∃ xs, H' D = some (.lst xs) ∧ All2 (rep (off H' (wth M D))) xs (((List.range i).filter f).map v)
section
variable {β : Type} [Rep β] {H : Hp} {M : Addr → Prop} {f : Nat → Bool} {v : Nat → β} {D : Addr} {i : Nat} {H1 H2 : Hp} {x : V}
theorem filter_yes (h : f i = true) : ((List.range (i + 1)).filter f).map v = ((List.range i).filter f).map v ++ [v i] := by
  rw [List.range_succ, List.filter_append, List.map_append]
  simp [h]
theorem filter_no (h : f i = false) : ((List.range (i + 1)).filter f).map v = ((List.range i).filter f).map v := by
  rw [List.range_succ, List.filter_append, List.map_append]
  simp [h]
theorem Lcf.snoc (L : Lcf H M f v D i H1) (hz : i < 1000000) (hf : f i = true) (s : Same H1 H2) (r : rep (off H2 (wth M D)) x (v i)) :
    ∃ acc, H2 D = some (.lst acc) ∧ acc.length < sizeLine ∧ Lcf H M f v D (i + 1) (upd H2 D (.lst (acc ++ [x]))) := by
  obtain ⟨xs, e, a⟩ := L.l
  have hl := a.len
  have hl2 := List.length_filter_le f (List.range i)
  rw [List.length_map] at hl
  rw [List.length_range] at hl2
  refine ⟨xs, s _ _ e, Nat.lt_of_lt_of_le (show xs.length < 1000000 by omega) (by decide), same_mut (L.s.trans s) L.n, L.n, _, upd_same, ?_⟩
  rw [off_upd wth_l, filter_yes hf]
  exact (all2_mono (off_mono s) a).snoc r
theorem Lcf.skip (L : Lcf H M f v D i H1) (hf : f i = false) (s : Same H1 H2) : Lcf H M f v D (i + 1) H2 := by
  obtain ⟨xs, e, a⟩ := L.l
  exact ⟨L.s.trans s, L.n, xs, s _ _ e, by rw [filter_no hf]; exact all2_mono (off_mono s) a⟩
theorem Lcf.start (n : H D = none) : Lcf H M f v D 0 (upd H D (.lst [])) := ⟨same_new n, n, [], upd_same, trivial⟩
theorem Lcf.off (L : Lcf H M f v D i H1) : Same (off H M) (off H1 (wth M D)) := off_imp L.s fun a h => by
  rcases h with h | h
  · exact .inl h
  · exact .inr (h ▸ L.n)
theorem Lcf.dm (L : Lcf H M f v D i H1) (hM : ∀ a, M a → dom H a) (a : Addr) (h : wth M D a) : dom H1 a := by
  rcases h with h | h
  · exact dom_same L.s (hM a h)
  · obtain ⟨xs, e, _⟩ := L.l
    exact h ▸ dom_of e
variable {σ : L2.St} {Q : VK} {K : PySem.W.Frag} {wi : TI} {tt : TT} {te : TE} {vs : List Nat} {j : Nat}
theorem lcRF {n : Nat} (hi : ∀ R : It → Hp → Prop, R (Itr 0 n) H → wi σ H R) (M : Addr → Prop) (f : Nat → Bool) (v : Nat → β) (hz : n ≤ 1000000) (hM : ∀ a, M a → dom H a) (hw : ∀ x, wipe ((wipe σ vs).set j (some x)) vs = wipe σ vs)
    (ht : ∀ (i : Nat) H1, i < n → Same H H1 → ∀ R : Bool → Hp → Prop, (∀ H2, Same H1 H2 → R (f i) H2) → tt ((wipe σ vs).set j (some (.int (i : Int)))) H1 R)
    (he : ∀ (i : Nat) H1 M1, i < n → f i = true → Same H H1 → Same (G.off H M) (G.off H1 M1) → (∀ a, M1 a → dom H1 a) → ∀ R : VK, (∀ x H2, Same H1 H2 → rep (G.off H2 M1) x (v i) → R x H2) → te ((wipe σ vs).set j (some (.int (i : Int)))) H1 R)
    (hd : NewL M H (((List.range n).filter f).map v) Q) : tLc wi (gName j) tt te vs σ H Q := v_lc (hi _ fun D hD =>
  lc_range (lo := 0) (n := n) (Lcf H M f v D) (.start hD) (fun i H1 hi L => by
    refine ⟨hw _, ?_⟩
    have e0 : (0 : Int) + (i : Int) = (i : Int) := Int.zero_add _
    rw [e0]
    refine ht i H1 hi L.s _ fun H2 s2 => ?_
    cases hf : f i with
    | true =>
      refine iteT ?_
      refine he i H2 (wth M D) hi hf (L.s.trans s2) (L.off.trans (off_mono s2)) (fun a h => dom_same s2 (L.dm hM a h)) _ fun x H3 s3 r => L.snoc (by omega) hf (s2.trans s3) r
    | false =>
      refine iteF ?_
      exact L.skip hf s2) fun H' L => by
    obtain ⟨xs, e, a⟩ := L.l
    exact hd D xs H' L.s L.n e a)
theorem lcLF {p : Addr} {xs : List V} (hi : ∀ R : It → Hp → Prop, R (Itl K p) H → wi σ H R) (M : Addr → Prop) (f : Nat → Bool) (v : Nat → β) (hx : SqL K H p xs) (hz : xs.length ≤ 1000000) (hM : ∀ a, M a → dom H a) (hw : ∀ x, wipe ((wipe σ vs).set j (some x)) vs = wipe σ vs)
    (ht : ∀ (i : Nat) x H1, xs[i]? = some x → Same H H1 → ∀ R : Bool → Hp → Prop, (∀ H2, Same H1 H2 → R (f i) H2) → tt ((wipe σ vs).set j (some x)) H1 R)
    (he : ∀ (i : Nat) x H1 M1, xs[i]? = some x → f i = true → Same H H1 → Same (G.off H M) (G.off H1 M1) → (∀ a, M1 a → dom H1 a) → ∀ R : VK, (∀ y H2, Same H1 H2 → rep (G.off H2 M1) y (v i) → R y H2) → te ((wipe σ vs).set j (some x)) H1 R)
    (hd : NewL M H (((List.range xs.length).filter f).map v) Q) : tLc wi (gName j) tt te vs σ H Q := v_lc (hi _ fun D hD =>
  lc_list (xs := xs) (Lcf H M f v D) (.start hD) (fun i H1 _ L => L.s.seq hx) (fun i x H1 hi L => by
    refine ⟨hw _, ?_⟩
    refine ht i x H1 hi L.s _ fun H2 s2 => ?_
    cases hf : f i with
    | true =>
      refine iteT ?_
      refine he i x H2 (wth M D) hi hf (L.s.trans s2) (L.off.trans (off_mono s2)) (fun a h => dom_same s2 (L.dm hM a h)) _ fun y H3 s3 r => L.snoc (by have := (List.getElem?_eq_some_iff.mp hi).1; omega) hf (s2.trans s3) r
    | false =>
      refine iteF ?_
      exact L.skip hf s2) fun H' L => by
    obtain ⟨ys, e, a⟩ := L.l
    exact hd D ys H' L.s L.n e a)
end
/-! ### fields -/
section
variable {σ : L2.St} {H : Hp} {Q : VK} {K : PySem.W.Frag} {ta tv : TE} {nx bk ct : L2.St → Hp → Prop} {rt : VK} {f : Str} {a C dx : Addr} {fs : List (Str × V)} {v : V}
theorem v_fldE (h : H a = some (.ins C dx fs)) (c : Cls K C) (n : NoAttr K C f) (l : fs.lookup f = some v) (q : Q v H) (hv : ta σ H fun x H1 => ∃ a C dx fs v, x = .ref a ∧ H1 a = some (.ins C dx fs) ∧ Cls K C ∧ NoAttr K C f ∧ fs.lookup f = some v ∧ Q v H1) : tFld K ta f σ H Q := hv
theorem v_fld (h : ta σ H fun x H1 => ∃ a C dx fs v, x = .ref a ∧ H1 a = some (.ins C dx fs) ∧ Cls K C ∧ NoAttr K C f ∧ fs.lookup f = some v ∧ Q v H1) : tFld K ta f σ H Q := h
theorem v_sfld (h : tv σ H fun y H1 => ta σ H1 fun x H2 => ∃ a C dx fs, x = .ref a ∧ H2 a = some (.ins C dx fs) ∧ Cls K C ∧ NoAttr K C f ∧ fs.length < 1000 ∧ nx σ (upd H2 a (.ins C dx (putF f y fs)))) : sFld K ta tv f ⟨nx, rt, bk, ct⟩ σ H := h
end
section
variable {σ : L2.St} {H : Hp} {Q : VK} {ta tb tc : TE} {r r' : R2}
theorem w_nff {A B : Prop} (h : A) : if (!false) = true then A else B := iteT h
theorem w_ntt {A B : Prop} (h : B) : if (!true) = true then A else B := iteF h
theorem w_nite {c A B : Prop} [Decidable c] (h1 : c → B) (h2 : ¬ c → A) : if (!decide c) = true then A else B := by
  by_cases h : c
  · rw [decide_eq_true h]
    exact iteF (h1 h)
  · rw [decide_eq_false h]
    exact iteT (h2 h)
theorem v_chain (h : ta σ H fun x H1 => tb σ H1 fun y H2 => r x y H2 fun z H3 => ∃ k, z = .bl k ∧ (if k = true then tc σ H3 fun w' H4 => r' y w' H4 Q else Q (.bl false) H3)) : tChain r r' ta tb tc σ H Q := h
theorem v_andV (h : ta σ H fun x H1 => ∃ c, x = .bl c ∧ if c = true then tb σ H1 Q else Q (.bl false) H1) : tAndV ta tb σ H Q := h
theorem v_orV (h : ta σ H fun x H1 => ∃ c, x = .bl c ∧ if c = true then Q (.bl true) H1 else tb σ H1 Q) : tOrV ta tb σ H Q := h
theorem v_notV (h : ta σ H fun x H1 => ∃ c, x = .bl c ∧ Q (.bl (!c)) H1) : tNotV ta σ H Q := h
end
end G
end
section
set_option Elab.async false
set_option linter.all false
set_option maxRecDepth 100000
namespace G
open PySem L2 PyProof.Rows PySem.Spec
/-! ### the end, with a seer's heap handed on -/
theorem run_law {P : Program} {w : World} {K : PySem.W.Frag} {mg mb : Str → Option Value} {k : Nat} {fa a : Addr} {fd : FuncData} {x : Str} {sp : Sp} {t : Shared} {us : List Value} {ns : List Int}
    (inK : K.In t.heap) (gl : t.heap.Ns mainGlobals mg) (bl : t.heap.Ns builtinsNs mb) (bbl : ∀ x : Str, x ≠ "__name__" → mb x = bootBuiltins x) (nl : t.heap.NoLimit) (ng : t.gens = #[]) (sk : t.heap.NoSeer)
    (at_a : t.heap.get? a = some { cls := .type "list", data := .seq us.toArray }) (hi : IntsAre us ns) (hl : ns.length ≤ sizeLine) (room : Room k callerA)
    (F : ∀ base : Heap, K.In base → base.Ns mainGlobals mg → base.NoSeer → FnOk P w K mg base CX0 k fa fd [x] sp) (bnd : ∀ (s : Shared) (u : Value), BindsTo s fd ⟨[u], []⟩ [(x, u)])
    (prom : ∀ H : Hp, SqL K H a (ns.map V.int) → sp [.ref a] H (fun v _ => v = .bl true) fun _ _ _ => False) :
    codeAny (model P w) callerA (.call (.ref fa) ⟨[.ref a], []⟩) (fun r s' => r = .ok (.ret (.bool true)) ∧ OldK t.heap s'.heap ∧ s'.os = t.os ∧ AllBare s'.gens) t := by
  have itv := vals_ints hi
  have sizes := hi.length
  have mid : ∀ H : Hp, Only H → SqL K H a (ns.map V.int) → HOk P w H t.heap → (∀ b, H b ≠ none → b = a) → (H a ≠ none → K.lookup a = none) →
      codeAny (model P w) callerA (.call (.ref fa) ⟨[.ref a], []⟩) (fun r s' => r = .ok (.ret (.bool true)) ∧ OldK t.heap s'.heap ∧ s'.os = t.os ∧ AllBare s'.gens) t := by
    intro H hOn sq hok just free
    -- what is no list of the script's class is not hidden
    have cleared : ∀ {b : Addr} {o : Obj}, t.heap.get? b = some o → o ≠ { cls := .type "list", data := .seq us.toArray } → H b = none := fun {b o} e n => by
      cases q : H b with
      | none => rfl
      | some u =>
        obtain rfl : b = a := just b (by rw [q]; simp)
        rw [at_a] at e
        cases e
        exact absurd rfl n
    have shown : ∀ {b : Addr} {o : Obj}, t.heap.get? b = some o → o ≠ { cls := .type "list", data := .seq us.toArray } → (hidT t.heap H).get? b = some o := fun e n => hidT_get e (cleared e n)
    have nsM : ∀ {b : Addr} {m : Str → Option Value}, t.heap.Ns b m → (hidT t.heap H).Ns b m := fun {b m} ⟨o, es, ep, e, d, r⟩ => ⟨o, es, ep, shown e (fun z => by rw [z] at d; cases d), d, r⟩
    have inB : K.In (hidT t.heap H) := fun b o e => by
      refine hidT_get (inK b o e) ?_
      cases q : H b with
      | none => rfl
      | some u =>
        obtain rfl : b = a := just b (by rw [q]; simp)
        rw [free (by rw [q]; simp)] at e
        cases e
    have seer : (hidT t.heap H).NoSeer := by
      obtain ⟨⟨mc, s1, s2⟩, ⟨mm, m1, m2⟩, ⟨mi, i1, i2⟩, ⟨mn, bm, ob, n1, n2, n3, n4, n5⟩⟩ := sk
      refine ⟨⟨mc, nsM s1, s2⟩, ⟨mm, nsM m1, m2⟩, ⟨mi, nsM i1, i2⟩, ⟨mn, bm, ob, nsM n1, n2, shown n3 (fun z => ?_), n4, n5⟩⟩
      rw [z] at n5
      cases n5
    have md : Mod K mg (hidT t.heap H) := ⟨inB, nsM gl, ⟨mb, nsM bl, bbl⟩, let ⟨mc, h1, h2⟩ := nl; ⟨mc, nsM h1, h2⟩⟩
    have start0 : Env0 P w K mg (hidT t.heap H) callerA [] t H := ⟨rfl, md, fun b o e => of_hidT e, Nat.le_of_eq (hidT_size _ _), trivial, (fun b hb => absurd (show b ∈ ([] : List Addr) from hb) List.not_mem_nil), hok, .of_eq ng⟩
    have ran := (F _ inB (nsM gl) seer).run callerA [] t H ⟨[.ref a], []⟩ [.ref a] [.ref a] _ _ room start0 (bnd t (.ref a)) (.cons rfl .nil) (prom H sq)
    refine codeAny_mono ran fun r s' h => ?_
    match r, h with
    | .error _, h => exact False.elim h
    | .ok .next, h => exact False.elim h
    | .ok .brk, h => exact False.elim h
    | .ok .cont, h => exact False.elim h
    | .ok (.ret u), ⟨v, H', os, bare, un, hok', r', q⟩ =>
      obtain rfl : v = .bl true := q
      obtain rfl : u = Value.bool true := r'
      refine ⟨rfl, .of_keep fun b o e => ?_, os, bare⟩
      rcases hOn b with z | ⟨ob, xs, z⟩
      · exact un.keep b o e z (fun y => absurd (show b ∈ ([] : List Addr) from y) List.not_mem_nil) (by simp)
      · obtain ⟨e2, _⟩ := hok' b _ (un.frzs b ob _ z)
        obtain ⟨e1, _⟩ := hok b _ z
        rw [e] at e1
        cases e1
        exact e2
  cases own : K.lookup a with
  | some o =>
    have e := (inK a o own).symm.trans at_a
    cases e
    exact mid (fun _ => none) (fun _ => .inl rfl) (.inr ⟨_, us.toArray, _, own, rfl, rfl, rfl, by rw [List.size_toArray, sizes]; exact hl, by simpa using itv⟩) (fun b u z => absurd (show (none : Option HO) = some u from z) (fun y => by cases y)) (fun b z => absurd rfl z) fun z => absurd rfl z
  | none =>
    have key : ∀ b u, (if b = a then some (HO.frz { cls := .type "list", data := .seq us.toArray } (.lst (ns.map V.int))) else none) = some u → b = a ∧ u = .frz { cls := .type "list", data := .seq us.toArray } (.lst (ns.map V.int)) := fun b u z => by
      split at z
      · rename_i hb
        cases z
        exact ⟨hb, rfl⟩
      · cases z
    refine mid (fun b => if b = a then some (.frz { cls := .type "list", data := .seq us.toArray } (.lst (ns.map V.int))) else none) (fun b => ?_) (.inl (.inr ⟨{ cls := .type "list", data := .seq us.toArray }, if_pos rfl⟩)) (fun b u z => ?_) (fun b z => ?_) fun _ => own
    · dsimp only
      split
      · exact .inr ⟨_, _, rfl⟩
      · exact .inl rfl
    · obtain ⟨rfl, rfl⟩ := key b u z
      exact ⟨at_a, by rw [List.length_map]; exact hl, us, _, itv, at_a⟩
    · refine Decidable.byContradiction fun n => z ?_
      exact if_neg n
/-- the same as an end of a row -/
theorem walk_law {l : PySem.W.OpenLaw} {n k : Nat} {q : Program} {loose : List Str} {XP : (Str → Option Value) → Heap → Prop} {YP : World → Heap → Prop} {d : DefRec} {K : Params → PySem.W.Frag} {sp : PySem.W.Frag → Sp} {x : Str}
    (most : l.most = some n) (small : n ≤ sizeLine) (nodef : d.params.defaults = []) (room : Room k callerA) (noimp : importsNone q = true) (toK : ∀ (w : World) (h : Heap), YP w h → (K w.params).In h)
    (F : ∀ (w : World) (mg : Str → Option Value) (fa : Addr) (h : Heap), (K w.params).In h → h.Ns mainGlobals mg → mg d.name = some (.ref fa) → ∃ fd : FuncData, (∀ (s : Shared) (u : Value), BindsTo s fd ⟨[u], []⟩ [(x, u)]) ∧
      ∀ base : Heap, (K w.params).In base → base.Ns mainGlobals mg → base.NoSeer → FnOk l.prog w (K w.params) mg base CX0 k fa fd [x] (sp (K w.params)))
    (prom : ∀ (w : World) (H : Hp) (a : Addr) (ns : List Int), ns.length ≤ n → SqL (K w.params) H a (ns.map V.int) → sp (K w.params) [.ref a] H (fun v _ => v = .bl true) fun _ _ _ => False) : PySem.W.WalkO q loose XP YP l.row.toRowW d [] (fun f vs => PySem.call f vs) :=
  Att.attach_callB most nodef fun w s0 t mg mb fa o pm cd doc a us ns Gr Y ho hd hcd hmg hobj hints hlen hbits hg => by
    obtain ⟨fd, bnd, hF⟩ := F w mg fa _ (toK w _ Y) Gr.T.g hmg
    exact run_law (toK w _ Y) Gr.T.g Gr.T.b Gr.T.builtins Gr.T.nolimit hg (Gr.T.seer noimp) hobj hints (Nat.le_trans hlen small) room hF bnd fun H => prom w H a ns hlen
end G
end
section
set_option Elab.async false
set_option linter.all false
set_option maxRecDepth 100000
namespace G
open PySem L2 PyProof.Rows
section
variable {σ : L2.St} {H : Hp} {Q : VK} {K : PySem.W.Frag}
theorem v_meth {C : Addr} {m : Str} {sp : Sp} {dvs : List V} {E : XK} {ta : TE} {t : TA} (h : ta σ H fun x H1 => ∃ a dx fs, x = .ref a ∧ H1 a = some (.ins C dx fs) ∧ fs.lookup m = none ∧ t σ H1 fun vs H2 => sp (x :: (vs ++ dvs)) H2 Q E) : tMeth C m sp dvs E ta t σ H Q := h
theorem v_make {C : Addr} {sp : Sp} {dvs : List V} {E : XK} {t : TA} (h : t σ H fun vs H1 => ∀ x dx, H1 x = none → H1 dx = none → dx ≠ x → sp (.ref x :: (vs ++ dvs)) (upd (upd H1 dx (.own x)) x (.ins C dx [])) (fun v H2 => v = .non ∧ Q (.ref x) H2) E) : tMake C sp dvs E t σ H Q := h
theorem w_neBB {a b : Bool} (q : Q (.bl (decide (a ≠ b))) H) : rNe (.bl a) (.bl b) H Q := ⟨rfl, by
  have e : (!decide (V.bl a = V.bl b)) = decide (a ≠ b) := by simp
  rw [e]
  exact q⟩
theorem w_eqBB {a b : Bool} (q : Q (.bl (decide (a = b))) H) : rEq (.bl a) (.bl b) H Q := ⟨rfl, by
  have e : decide (V.bl a = V.bl b) = decide (a = b) := by simp
  rw [e]
  exact q⟩
theorem w_gtup2 {t : Addr} {x y : V} {i j : Nat} {R : L2.St → Hp → Prop} (h : H t = some (.tup [x, y])) (q : R ((σ.set i (some x)).set j (some y)) H) : gTup K 2 (gCons (gName i) (gCons (gName j) gNil)) (.ref t) σ H R :=
  ⟨t, [x, y], rfl, SqT.of h, rfl, x, [y], rfl, y, [], rfl, rfl, q⟩
theorem w_gtup4 {t : Addr} {x y z u : V} {i j k l : Nat} {R : L2.St → Hp → Prop} (h : H t = some (.tup [x, y, z, u])) (q : R ((((σ.set i (some x)).set j (some y)).set k (some z)).set l (some u)) H) : gTup K 4 (gCons (gName i) (gCons (gName j) (gCons (gName k) (gCons (gName l) gNil)))) (.ref t) σ H R :=
  ⟨t, [x, y, z, u], rfl, SqT.of h, rfl, x, [y, z, u], rfl, y, [z, u], rfl, z, [u], rfl, u, [], rfl, rfl, q⟩
end
section
variable {H : Hp} {Q : VK}
theorem if_post {c : TT} {ta tb : TE} {σ : L2.St} (T : V → Hp → Prop) (hq : ∀ x H', T x H' → Q x H') (h : ∀ Q' : VK, (∀ x H', T x H' → Q' x H') → tIf c ta tb σ H Q') : tIf c ta tb σ H Q := h Q hq
theorem w_notB {a b : Bool} (q : Q (.bl (!decide (a = b))) H) : rNotB (.bl a) (.bl b) H Q := ⟨a, b, rfl, rfl, q⟩
theorem not_dom {H : Hp} {q : Addr} (n : H q = none) : ¬ dom H q := fun h => h n
theorem dom_upd {l a : Addr} {o : HO} (h : dom H a) : dom (upd H l o) a := by
  by_cases e : a = l
  · rw [e]
    exact dom_of upd_same
  · unfold dom
    rw [upd_ne e]
    exact h
end
def ipMulI : TIp := fun x y H Q => rMulI x y H Q
theorem iop_mulG {X : Cx} : OpR X (inplaceOp .Mult) rMulI := opI fun _ _ _ _ _ _ _ hc q => imul_int q hc.ok
theorem ip_mulG {X : Cx} : PIp X .Mult ipMulI := fun pins s σ H x y v u Q I r1 r2 h => iop_mulG pins s σ H x y v u Q I r1 r2 h
theorem w_ipMul {i j : Int} {H : Hp} {Q : VK} (c : CMulG i j) (q : Q (.int (i * j)) H) : ipMulI (.int i) (.int j) H Q := ⟨i, j, rfl, rfl, c, q⟩
end G
end
section
set_option Elab.async false
set_option linter.all false
set_option maxRecDepth 100000
namespace G
open PySem L2 PyProof.Rows
theorem tv_16 {a0 a1 a2 a3 a4 a5 a6 a7 a8 a9 a10 a11 a12 a13 a14 a15 : Option V} {v : V} {σ : L2.St} {H : Hp} {Q : VK} (q : Q v H) : tVar 16 (a0 :: a1 :: a2 :: a3 :: a4 :: a5 :: a6 :: a7 :: a8 :: a9 :: a10 :: a11 :: a12 :: a13 :: a14 :: a15 :: some v :: σ) H Q := ⟨v, rfl, q⟩
theorem nv_16 {a0 a1 a2 a3 a4 a5 a6 a7 a8 a9 a10 a11 a12 a13 a14 a15 : Option V} {a : Option V} {v : V} {σ : L2.St} {H : Hp} {R : L2.St → Hp → Prop} (h : R (a0 :: a1 :: a2 :: a3 :: a4 :: a5 :: a6 :: a7 :: a8 :: a9 :: a10 :: a11 :: a12 :: a13 :: a14 :: a15 :: some v :: σ) H) : gName 16 v (a0 :: a1 :: a2 :: a3 :: a4 :: a5 :: a6 :: a7 :: a8 :: a9 :: a10 :: a11 :: a12 :: a13 :: a14 :: a15 :: a :: σ) H R := h
theorem av_16 {a0 a1 a2 a3 a4 a5 a6 a7 a8 a9 a10 a11 a12 a13 a14 a15 : Option V} {x : V} {σ : L2.St} {H : Hp} {te : TE} {ti : TIp} {nx bk ct : L2.St → Hp → Prop} {rt : VK} (q : te (a0 :: a1 :: a2 :: a3 :: a4 :: a5 :: a6 :: a7 :: a8 :: a9 :: a10 :: a11 :: a12 :: a13 :: a14 :: a15 :: some x :: σ) H fun y H1 => ti x y H1 fun z H2 => nx (a0 :: a1 :: a2 :: a3 :: a4 :: a5 :: a6 :: a7 :: a8 :: a9 :: a10 :: a11 :: a12 :: a13 :: a14 :: a15 :: some z :: σ) H2) : tAug 16 te ti ⟨nx, rt, bk, ct⟩ (a0 :: a1 :: a2 :: a3 :: a4 :: a5 :: a6 :: a7 :: a8 :: a9 :: a10 :: a11 :: a12 :: a13 :: a14 :: a15 :: some x :: σ) H := ⟨x, rfl, q⟩
theorem tv_17 {a0 a1 a2 a3 a4 a5 a6 a7 a8 a9 a10 a11 a12 a13 a14 a15 a16 : Option V} {v : V} {σ : L2.St} {H : Hp} {Q : VK} (q : Q v H) : tVar 17 (a0 :: a1 :: a2 :: a3 :: a4 :: a5 :: a6 :: a7 :: a8 :: a9 :: a10 :: a11 :: a12 :: a13 :: a14 :: a15 :: a16 :: some v :: σ) H Q := ⟨v, rfl, q⟩
theorem nv_17 {a0 a1 a2 a3 a4 a5 a6 a7 a8 a9 a10 a11 a12 a13 a14 a15 a16 : Option V} {a : Option V} {v : V} {σ : L2.St} {H : Hp} {R : L2.St → Hp → Prop} (h : R (a0 :: a1 :: a2 :: a3 :: a4 :: a5 :: a6 :: a7 :: a8 :: a9 :: a10 :: a11 :: a12 :: a13 :: a14 :: a15 :: a16 :: some v :: σ) H) : gName 17 v (a0 :: a1 :: a2 :: a3 :: a4 :: a5 :: a6 :: a7 :: a8 :: a9 :: a10 :: a11 :: a12 :: a13 :: a14 :: a15 :: a16 :: a :: σ) H R := h
theorem av_17 {a0 a1 a2 a3 a4 a5 a6 a7 a8 a9 a10 a11 a12 a13 a14 a15 a16 : Option V} {x : V} {σ : L2.St} {H : Hp} {te : TE} {ti : TIp} {nx bk ct : L2.St → Hp → Prop} {rt : VK} (q : te (a0 :: a1 :: a2 :: a3 :: a4 :: a5 :: a6 :: a7 :: a8 :: a9 :: a10 :: a11 :: a12 :: a13 :: a14 :: a15 :: a16 :: some x :: σ) H fun y H1 => ti x y H1 fun z H2 => nx (a0 :: a1 :: a2 :: a3 :: a4 :: a5 :: a6 :: a7 :: a8 :: a9 :: a10 :: a11 :: a12 :: a13 :: a14 :: a15 :: a16 :: some z :: σ) H2) : tAug 17 te ti ⟨nx, rt, bk, ct⟩ (a0 :: a1 :: a2 :: a3 :: a4 :: a5 :: a6 :: a7 :: a8 :: a9 :: a10 :: a11 :: a12 :: a13 :: a14 :: a15 :: a16 :: some x :: σ) H := ⟨x, rfl, q⟩
theorem tv_18 {a0 a1 a2 a3 a4 a5 a6 a7 a8 a9 a10 a11 a12 a13 a14 a15 a16 a17 : Option V} {v : V} {σ : L2.St} {H : Hp} {Q : VK} (q : Q v H) : tVar 18 (a0 :: a1 :: a2 :: a3 :: a4 :: a5 :: a6 :: a7 :: a8 :: a9 :: a10 :: a11 :: a12 :: a13 :: a14 :: a15 :: a16 :: a17 :: some v :: σ) H Q := ⟨v, rfl, q⟩
theorem nv_18 {a0 a1 a2 a3 a4 a5 a6 a7 a8 a9 a10 a11 a12 a13 a14 a15 a16 a17 : Option V} {a : Option V} {v : V} {σ : L2.St} {H : Hp} {R : L2.St → Hp → Prop} (h : R (a0 :: a1 :: a2 :: a3 :: a4 :: a5 :: a6 :: a7 :: a8 :: a9 :: a10 :: a11 :: a12 :: a13 :: a14 :: a15 :: a16 :: a17 :: some v :: σ) H) : gName 18 v (a0 :: a1 :: a2 :: a3 :: a4 :: a5 :: a6 :: a7 :: a8 :: a9 :: a10 :: a11 :: a12 :: a13 :: a14 :: a15 :: a16 :: a17 :: a :: σ) H R := h
theorem av_18 {a0 a1 a2 a3 a4 a5 a6 a7 a8 a9 a10 a11 a12 a13 a14 a15 a16 a17 : Option V} {x : V} {σ : L2.St} {H : Hp} {te : TE} {ti : TIp} {nx bk ct : L2.St → Hp → Prop} {rt : VK} (q : te (a0 :: a1 :: a2 :: a3 :: a4 :: a5 :: a6 :: a7 :: a8 :: a9 :: a10 :: a11 :: a12 :: a13 :: a14 :: a15 :: a16 :: a17 :: some x :: σ) H fun y H1 => ti x y H1 fun z H2 => nx (a0 :: a1 :: a2 :: a3 :: a4 :: a5 :: a6 :: a7 :: a8 :: a9 :: a10 :: a11 :: a12 :: a13 :: a14 :: a15 :: a16 :: a17 :: some z :: σ) H2) : tAug 18 te ti ⟨nx, rt, bk, ct⟩ (a0 :: a1 :: a2 :: a3 :: a4 :: a5 :: a6 :: a7 :: a8 :: a9 :: a10 :: a11 :: a12 :: a13 :: a14 :: a15 :: a16 :: a17 :: some x :: σ) H := ⟨x, rfl, q⟩
theorem tv_19 {a0 a1 a2 a3 a4 a5 a6 a7 a8 a9 a10 a11 a12 a13 a14 a15 a16 a17 a18 : Option V} {v : V} {σ : L2.St} {H : Hp} {Q : VK} (q : Q v H) : tVar 19 (a0 :: a1 :: a2 :: a3 :: a4 :: a5 :: a6 :: a7 :: a8 :: a9 :: a10 :: a11 :: a12 :: a13 :: a14 :: a15 :: a16 :: a17 :: a18 :: some v :: σ) H Q := ⟨v, rfl, q⟩
theorem nv_19 {a0 a1 a2 a3 a4 a5 a6 a7 a8 a9 a10 a11 a12 a13 a14 a15 a16 a17 a18 : Option V} {a : Option V} {v : V} {σ : L2.St} {H : Hp} {R : L2.St → Hp → Prop} (h : R (a0 :: a1 :: a2 :: a3 :: a4 :: a5 :: a6 :: a7 :: a8 :: a9 :: a10 :: a11 :: a12 :: a13 :: a14 :: a15 :: a16 :: a17 :: a18 :: some v :: σ) H) : gName 19 v (a0 :: a1 :: a2 :: a3 :: a4 :: a5 :: a6 :: a7 :: a8 :: a9 :: a10 :: a11 :: a12 :: a13 :: a14 :: a15 :: a16 :: a17 :: a18 :: a :: σ) H R := h
theorem av_19 {a0 a1 a2 a3 a4 a5 a6 a7 a8 a9 a10 a11 a12 a13 a14 a15 a16 a17 a18 : Option V} {x : V} {σ : L2.St} {H : Hp} {te : TE} {ti : TIp} {nx bk ct : L2.St → Hp → Prop} {rt : VK} (q : te (a0 :: a1 :: a2 :: a3 :: a4 :: a5 :: a6 :: a7 :: a8 :: a9 :: a10 :: a11 :: a12 :: a13 :: a14 :: a15 :: a16 :: a17 :: a18 :: some x :: σ) H fun y H1 => ti x y H1 fun z H2 => nx (a0 :: a1 :: a2 :: a3 :: a4 :: a5 :: a6 :: a7 :: a8 :: a9 :: a10 :: a11 :: a12 :: a13 :: a14 :: a15 :: a16 :: a17 :: a18 :: some z :: σ) H2) : tAug 19 te ti ⟨nx, rt, bk, ct⟩ (a0 :: a1 :: a2 :: a3 :: a4 :: a5 :: a6 :: a7 :: a8 :: a9 :: a10 :: a11 :: a12 :: a13 :: a14 :: a15 :: a16 :: a17 :: a18 :: some x :: σ) H := ⟨x, rfl, q⟩
theorem tv_20 {a0 a1 a2 a3 a4 a5 a6 a7 a8 a9 a10 a11 a12 a13 a14 a15 a16 a17 a18 a19 : Option V} {v : V} {σ : L2.St} {H : Hp} {Q : VK} (q : Q v H) : tVar 20 (a0 :: a1 :: a2 :: a3 :: a4 :: a5 :: a6 :: a7 :: a8 :: a9 :: a10 :: a11 :: a12 :: a13 :: a14 :: a15 :: a16 :: a17 :: a18 :: a19 :: some v :: σ) H Q := ⟨v, rfl, q⟩
theorem nv_20 {a0 a1 a2 a3 a4 a5 a6 a7 a8 a9 a10 a11 a12 a13 a14 a15 a16 a17 a18 a19 : Option V} {a : Option V} {v : V} {σ : L2.St} {H : Hp} {R : L2.St → Hp → Prop} (h : R (a0 :: a1 :: a2 :: a3 :: a4 :: a5 :: a6 :: a7 :: a8 :: a9 :: a10 :: a11 :: a12 :: a13 :: a14 :: a15 :: a16 :: a17 :: a18 :: a19 :: some v :: σ) H) : gName 20 v (a0 :: a1 :: a2 :: a3 :: a4 :: a5 :: a6 :: a7 :: a8 :: a9 :: a10 :: a11 :: a12 :: a13 :: a14 :: a15 :: a16 :: a17 :: a18 :: a19 :: a :: σ) H R := h
theorem av_20 {a0 a1 a2 a3 a4 a5 a6 a7 a8 a9 a10 a11 a12 a13 a14 a15 a16 a17 a18 a19 : Option V} {x : V} {σ : L2.St} {H : Hp} {te : TE} {ti : TIp} {nx bk ct : L2.St → Hp → Prop} {rt : VK} (q : te (a0 :: a1 :: a2 :: a3 :: a4 :: a5 :: a6 :: a7 :: a8 :: a9 :: a10 :: a11 :: a12 :: a13 :: a14 :: a15 :: a16 :: a17 :: a18 :: a19 :: some x :: σ) H fun y H1 => ti x y H1 fun z H2 => nx (a0 :: a1 :: a2 :: a3 :: a4 :: a5 :: a6 :: a7 :: a8 :: a9 :: a10 :: a11 :: a12 :: a13 :: a14 :: a15 :: a16 :: a17 :: a18 :: a19 :: some z :: σ) H2) : tAug 20 te ti ⟨nx, rt, bk, ct⟩ (a0 :: a1 :: a2 :: a3 :: a4 :: a5 :: a6 :: a7 :: a8 :: a9 :: a10 :: a11 :: a12 :: a13 :: a14 :: a15 :: a16 :: a17 :: a18 :: a19 :: some x :: σ) H := ⟨x, rfl, q⟩
theorem tv_21 {a0 a1 a2 a3 a4 a5 a6 a7 a8 a9 a10 a11 a12 a13 a14 a15 a16 a17 a18 a19 a20 : Option V} {v : V} {σ : L2.St} {H : Hp} {Q : VK} (q : Q v H) : tVar 21 (a0 :: a1 :: a2 :: a3 :: a4 :: a5 :: a6 :: a7 :: a8 :: a9 :: a10 :: a11 :: a12 :: a13 :: a14 :: a15 :: a16 :: a17 :: a18 :: a19 :: a20 :: some v :: σ) H Q := ⟨v, rfl, q⟩
theorem nv_21 {a0 a1 a2 a3 a4 a5 a6 a7 a8 a9 a10 a11 a12 a13 a14 a15 a16 a17 a18 a19 a20 : Option V} {a : Option V} {v : V} {σ : L2.St} {H : Hp} {R : L2.St → Hp → Prop} (h : R (a0 :: a1 :: a2 :: a3 :: a4 :: a5 :: a6 :: a7 :: a8 :: a9 :: a10 :: a11 :: a12 :: a13 :: a14 :: a15 :: a16 :: a17 :: a18 :: a19 :: a20 :: some v :: σ) H) : gName 21 v (a0 :: a1 :: a2 :: a3 :: a4 :: a5 :: a6 :: a7 :: a8 :: a9 :: a10 :: a11 :: a12 :: a13 :: a14 :: a15 :: a16 :: a17 :: a18 :: a19 :: a20 :: a :: σ) H R := h
theorem av_21 {a0 a1 a2 a3 a4 a5 a6 a7 a8 a9 a10 a11 a12 a13 a14 a15 a16 a17 a18 a19 a20 : Option V} {x : V} {σ : L2.St} {H : Hp} {te : TE} {ti : TIp} {nx bk ct : L2.St → Hp → Prop} {rt : VK} (q : te (a0 :: a1 :: a2 :: a3 :: a4 :: a5 :: a6 :: a7 :: a8 :: a9 :: a10 :: a11 :: a12 :: a13 :: a14 :: a15 :: a16 :: a17 :: a18 :: a19 :: a20 :: some x :: σ) H fun y H1 => ti x y H1 fun z H2 => nx (a0 :: a1 :: a2 :: a3 :: a4 :: a5 :: a6 :: a7 :: a8 :: a9 :: a10 :: a11 :: a12 :: a13 :: a14 :: a15 :: a16 :: a17 :: a18 :: a19 :: a20 :: some z :: σ) H2) : tAug 21 te ti ⟨nx, rt, bk, ct⟩ (a0 :: a1 :: a2 :: a3 :: a4 :: a5 :: a6 :: a7 :: a8 :: a9 :: a10 :: a11 :: a12 :: a13 :: a14 :: a15 :: a16 :: a17 :: a18 :: a19 :: a20 :: some x :: σ) H := ⟨x, rfl, q⟩
theorem tv_22 {a0 a1 a2 a3 a4 a5 a6 a7 a8 a9 a10 a11 a12 a13 a14 a15 a16 a17 a18 a19 a20 a21 : Option V} {v : V} {σ : L2.St} {H : Hp} {Q : VK} (q : Q v H) : tVar 22 (a0 :: a1 :: a2 :: a3 :: a4 :: a5 :: a6 :: a7 :: a8 :: a9 :: a10 :: a11 :: a12 :: a13 :: a14 :: a15 :: a16 :: a17 :: a18 :: a19 :: a20 :: a21 :: some v :: σ) H Q := ⟨v, rfl, q⟩
theorem nv_22 {a0 a1 a2 a3 a4 a5 a6 a7 a8 a9 a10 a11 a12 a13 a14 a15 a16 a17 a18 a19 a20 a21 : Option V} {a : Option V} {v : V} {σ : L2.St} {H : Hp} {R : L2.St → Hp → Prop} (h : R (a0 :: a1 :: a2 :: a3 :: a4 :: a5 :: a6 :: a7 :: a8 :: a9 :: a10 :: a11 :: a12 :: a13 :: a14 :: a15 :: a16 :: a17 :: a18 :: a19 :: a20 :: a21 :: some v :: σ) H) : gName 22 v (a0 :: a1 :: a2 :: a3 :: a4 :: a5 :: a6 :: a7 :: a8 :: a9 :: a10 :: a11 :: a12 :: a13 :: a14 :: a15 :: a16 :: a17 :: a18 :: a19 :: a20 :: a21 :: a :: σ) H R := h
theorem av_22 {a0 a1 a2 a3 a4 a5 a6 a7 a8 a9 a10 a11 a12 a13 a14 a15 a16 a17 a18 a19 a20 a21 : Option V} {x : V} {σ : L2.St} {H : Hp} {te : TE} {ti : TIp} {nx bk ct : L2.St → Hp → Prop} {rt : VK} (q : te (a0 :: a1 :: a2 :: a3 :: a4 :: a5 :: a6 :: a7 :: a8 :: a9 :: a10 :: a11 :: a12 :: a13 :: a14 :: a15 :: a16 :: a17 :: a18 :: a19 :: a20 :: a21 :: some x :: σ) H fun y H1 => ti x y H1 fun z H2 => nx (a0 :: a1 :: a2 :: a3 :: a4 :: a5 :: a6 :: a7 :: a8 :: a9 :: a10 :: a11 :: a12 :: a13 :: a14 :: a15 :: a16 :: a17 :: a18 :: a19 :: a20 :: a21 :: some z :: σ) H2) : tAug 22 te ti ⟨nx, rt, bk, ct⟩ (a0 :: a1 :: a2 :: a3 :: a4 :: a5 :: a6 :: a7 :: a8 :: a9 :: a10 :: a11 :: a12 :: a13 :: a14 :: a15 :: a16 :: a17 :: a18 :: a19 :: a20 :: a21 :: some x :: σ) H := ⟨x, rfl, q⟩
theorem tv_23 {a0 a1 a2 a3 a4 a5 a6 a7 a8 a9 a10 a11 a12 a13 a14 a15 a16 a17 a18 a19 a20 a21 a22 : Option V} {v : V} {σ : L2.St} {H : Hp} {Q : VK} (q : Q v H) : tVar 23 (a0 :: a1 :: a2 :: a3 :: a4 :: a5 :: a6 :: a7 :: a8 :: a9 :: a10 :: a11 :: a12 :: a13 :: a14 :: a15 :: a16 :: a17 :: a18 :: a19 :: a20 :: a21 :: a22 :: some v :: σ) H Q := ⟨v, rfl, q⟩
theorem nv_23 {a0 a1 a2 a3 a4 a5 a6 a7 a8 a9 a10 a11 a12 a13 a14 a15 a16 a17 a18 a19 a20 a21 a22 : Option V} {a : Option V} {v : V} {σ : L2.St} {H : Hp} {R : L2.St → Hp → Prop} (h : R (a0 :: a1 :: a2 :: a3 :: a4 :: a5 :: a6 :: a7 :: a8 :: a9 :: a10 :: a11 :: a12 :: a13 :: a14 :: a15 :: a16 :: a17 :: a18 :: a19 :: a20 :: a21 :: a22 :: some v :: σ) H) : gName 23 v (a0 :: a1 :: a2 :: a3 :: a4 :: a5 :: a6 :: a7 :: a8 :: a9 :: a10 :: a11 :: a12 :: a13 :: a14 :: a15 :: a16 :: a17 :: a18 :: a19 :: a20 :: a21 :: a22 :: a :: σ) H R := h
theorem av_23 {a0 a1 a2 a3 a4 a5 a6 a7 a8 a9 a10 a11 a12 a13 a14 a15 a16 a17 a18 a19 a20 a21 a22 : Option V} {x : V} {σ : L2.St} {H : Hp} {te : TE} {ti : TIp} {nx bk ct : L2.St → Hp → Prop} {rt : VK} (q : te (a0 :: a1 :: a2 :: a3 :: a4 :: a5 :: a6 :: a7 :: a8 :: a9 :: a10 :: a11 :: a12 :: a13 :: a14 :: a15 :: a16 :: a17 :: a18 :: a19 :: a20 :: a21 :: a22 :: some x :: σ) H fun y H1 => ti x y H1 fun z H2 => nx (a0 :: a1 :: a2 :: a3 :: a4 :: a5 :: a6 :: a7 :: a8 :: a9 :: a10 :: a11 :: a12 :: a13 :: a14 :: a15 :: a16 :: a17 :: a18 :: a19 :: a20 :: a21 :: a22 :: some z :: σ) H2) : tAug 23 te ti ⟨nx, rt, bk, ct⟩ (a0 :: a1 :: a2 :: a3 :: a4 :: a5 :: a6 :: a7 :: a8 :: a9 :: a10 :: a11 :: a12 :: a13 :: a14 :: a15 :: a16 :: a17 :: a18 :: a19 :: a20 :: a21 :: a22 :: some x :: σ) H := ⟨x, rfl, q⟩
theorem tv_24 {a0 a1 a2 a3 a4 a5 a6 a7 a8 a9 a10 a11 a12 a13 a14 a15 a16 a17 a18 a19 a20 a21 a22 a23 : Option V} {v : V} {σ : L2.St} {H : Hp} {Q : VK} (q : Q v H) : tVar 24 (a0 :: a1 :: a2 :: a3 :: a4 :: a5 :: a6 :: a7 :: a8 :: a9 :: a10 :: a11 :: a12 :: a13 :: a14 :: a15 :: a16 :: a17 :: a18 :: a19 :: a20 :: a21 :: a22 :: a23 :: some v :: σ) H Q := ⟨v, rfl, q⟩
theorem nv_24 {a0 a1 a2 a3 a4 a5 a6 a7 a8 a9 a10 a11 a12 a13 a14 a15 a16 a17 a18 a19 a20 a21 a22 a23 : Option V} {a : Option V} {v : V} {σ : L2.St} {H : Hp} {R : L2.St → Hp → Prop} (h : R (a0 :: a1 :: a2 :: a3 :: a4 :: a5 :: a6 :: a7 :: a8 :: a9 :: a10 :: a11 :: a12 :: a13 :: a14 :: a15 :: a16 :: a17 :: a18 :: a19 :: a20 :: a21 :: a22 :: a23 :: some v :: σ) H) : gName 24 v (a0 :: a1 :: a2 :: a3 :: a4 :: a5 :: a6 :: a7 :: a8 :: a9 :: a10 :: a11 :: a12 :: a13 :: a14 :: a15 :: a16 :: a17 :: a18 :: a19 :: a20 :: a21 :: a22 :: a23 :: a :: σ) H R := h
theorem av_24 {a0 a1 a2 a3 a4 a5 a6 a7 a8 a9 a10 a11 a12 a13 a14 a15 a16 a17 a18 a19 a20 a21 a22 a23 : Option V} {x : V} {σ : L2.St} {H : Hp} {te : TE} {ti : TIp} {nx bk ct : L2.St → Hp → Prop} {rt : VK} (q : te (a0 :: a1 :: a2 :: a3 :: a4 :: a5 :: a6 :: a7 :: a8 :: a9 :: a10 :: a11 :: a12 :: a13 :: a14 :: a15 :: a16 :: a17 :: a18 :: a19 :: a20 :: a21 :: a22 :: a23 :: some x :: σ) H fun y H1 => ti x y H1 fun z H2 => nx (a0 :: a1 :: a2 :: a3 :: a4 :: a5 :: a6 :: a7 :: a8 :: a9 :: a10 :: a11 :: a12 :: a13 :: a14 :: a15 :: a16 :: a17 :: a18 :: a19 :: a20 :: a21 :: a22 :: a23 :: some z :: σ) H2) : tAug 24 te ti ⟨nx, rt, bk, ct⟩ (a0 :: a1 :: a2 :: a3 :: a4 :: a5 :: a6 :: a7 :: a8 :: a9 :: a10 :: a11 :: a12 :: a13 :: a14 :: a15 :: a16 :: a17 :: a18 :: a19 :: a20 :: a21 :: a22 :: a23 :: some x :: σ) H := ⟨x, rfl, q⟩
theorem tv_25 {a0 a1 a2 a3 a4 a5 a6 a7 a8 a9 a10 a11 a12 a13 a14 a15 a16 a17 a18 a19 a20 a21 a22 a23 a24 : Option V} {v : V} {σ : L2.St} {H : Hp} {Q : VK} (q : Q v H) : tVar 25 (a0 :: a1 :: a2 :: a3 :: a4 :: a5 :: a6 :: a7 :: a8 :: a9 :: a10 :: a11 :: a12 :: a13 :: a14 :: a15 :: a16 :: a17 :: a18 :: a19 :: a20 :: a21 :: a22 :: a23 :: a24 :: some v :: σ) H Q := ⟨v, rfl, q⟩
theorem nv_25 {a0 a1 a2 a3 a4 a5 a6 a7 a8 a9 a10 a11 a12 a13 a14 a15 a16 a17 a18 a19 a20 a21 a22 a23 a24 : Option V} {a : Option V} {v : V} {σ : L2.St} {H : Hp} {R : L2.St → Hp → Prop} (h : R (a0 :: a1 :: a2 :: a3 :: a4 :: a5 :: a6 :: a7 :: a8 :: a9 :: a10 :: a11 :: a12 :: a13 :: a14 :: a15 :: a16 :: a17 :: a18 :: a19 :: a20 :: a21 :: a22 :: a23 :: a24 :: some v :: σ) H) : gName 25 v (a0 :: a1 :: a2 :: a3 :: a4 :: a5 :: a6 :: a7 :: a8 :: a9 :: a10 :: a11 :: a12 :: a13 :: a14 :: a15 :: a16 :: a17 :: a18 :: a19 :: a20 :: a21 :: a22 :: a23 :: a24 :: a :: σ) H R := h
theorem av_25 {a0 a1 a2 a3 a4 a5 a6 a7 a8 a9 a10 a11 a12 a13 a14 a15 a16 a17 a18 a19 a20 a21 a22 a23 a24 : Option V} {x : V} {σ : L2.St} {H : Hp} {te : TE} {ti : TIp} {nx bk ct : L2.St → Hp → Prop} {rt : VK} (q : te (a0 :: a1 :: a2 :: a3 :: a4 :: a5 :: a6 :: a7 :: a8 :: a9 :: a10 :: a11 :: a12 :: a13 :: a14 :: a15 :: a16 :: a17 :: a18 :: a19 :: a20 :: a21 :: a22 :: a23 :: a24 :: some x :: σ) H fun y H1 => ti x y H1 fun z H2 => nx (a0 :: a1 :: a2 :: a3 :: a4 :: a5 :: a6 :: a7 :: a8 :: a9 :: a10 :: a11 :: a12 :: a13 :: a14 :: a15 :: a16 :: a17 :: a18 :: a19 :: a20 :: a21 :: a22 :: a23 :: a24 :: some z :: σ) H2) : tAug 25 te ti ⟨nx, rt, bk, ct⟩ (a0 :: a1 :: a2 :: a3 :: a4 :: a5 :: a6 :: a7 :: a8 :: a9 :: a10 :: a11 :: a12 :: a13 :: a14 :: a15 :: a16 :: a17 :: a18 :: a19 :: a20 :: a21 :: a22 :: a23 :: a24 :: some x :: σ) H := ⟨x, rfl, q⟩
end G
end
section
set_option Elab.async false
set_option linter.all false
set_option maxRecDepth 100000
namespace G
open PySem L2 PyProof.Rows
/-! ### three comparisons in a row -/
def tChain3 (r1 r2 r3 : R2) (ta tb tc td : TE) : TE := fun σ H Q => ta σ H fun x H1 => tb σ H1 fun y H2 => r1 x y H2 fun a H3 => ∃ k, a = .bl k ∧
  if k = true then (tc σ H3 fun u H4 => r2 y u H4 fun b H5 => ∃ j, b = .bl j ∧ if j = true then td σ H5 fun w H6 => r3 u w H6 Q else Q (.bl false) H5) else Q (.bl false) H3
theorem pe_chain3 {X : Cx} {a b c d : Expr} {o1 o2 o3 : CmpOp} {r1 r2 r3 : R2} {ta tb tc td : TE} {pos : Pos} (h1 : OpR X (compareOp o1) r1) (h2 : OpR X (compareOp o2) r2) (h3 : OpR X (compareOp o3) r3) (ha : PE X a ta) (hb : PE X b tb) (hc : PE X c tc) (hd : PE X d td)
    (hm : lastMarks [o1, o2, o3] [b, c, d] = false := by with_unfolding_all rfl) : PE X (.Compare a [o1, o2, o3] [b, c, d] pos) (tChain3 r1 r2 r3 ta tb tc td) := by
  constructor
  intro pins s σ H Q I h
  refine Compare_chain (thn (ha.run pins s σ H _ I h) ?_) hm
  rintro v t1 ⟨x, H1, I1, e1, h⟩
  refine chain_link (thn (hb.run pins t1 σ H1 _ I1 h) ?_)
  rintro u t2 ⟨y, H2, I2, e2, h⟩
  refine thn (h1 pins t2 σ H2 x y v u _ I2 e1 e2 h) ?_
  rintro _ t3 ⟨_, H3, I3, e3, k, rfl, h⟩
  cases e3
  refine wpAny_truthy_bool ?_
  cases k
  · exact ite_ff ⟨.bl false, H3, I3, rfl, h⟩
  · refine ite_tt (chain_link (thn (hc.run pins t3 σ H3 _ I3 h) ?_))
    rintro w t4 ⟨z, H4, I4, e4, h⟩
    refine thn (h2 pins t4 σ H4 y z u w _ I4 e2 e4 h) ?_
    rintro _ t5 ⟨_, H5, I5, e5, j, rfl, h⟩
    cases e5
    refine wpAny_truthy_bool ?_
    cases j
    · exact ite_ff ⟨.bl false, H5, I5, rfl, h⟩
    · refine ite_tt (chain_last (thn (hd.run pins t5 σ H5 _ I5 h) ?_))
      rintro q t6 ⟨g, H6, I6, e6, h⟩
      exact h3 pins t6 σ H6 z g w q Q I6 e4 e6 h
/-! ### a list or a tuple walked -/
def iEith (a b : TI) : TI := fun σ H R => a σ H R ∨ b σ H R
theorem pi_either {X : Cx} {tg e : Expr} {a b : TI} (h1 : PI X tg e a) (h2 : PI X tg e b) : PI X tg e (iEith a b) := ⟨fun pins s σ H R I h => h.elim (h1.run pins s σ H R I) (h2.run pins s σ H R I)⟩
def rMin2 : List V → Hp → VK → Prop := fun xs H Q => ∃ i j, xs = [.int i, .int j] ∧ Q (.int (if j < i then j else i)) H
section
variable {σ : L2.St} {H : Hp} {Q : VK} {K : PySem.W.Frag} {wi : TI} {te : TE} {tt : TT} {vs : List Nat} {j : Nat} {g : TG} {p : Addr} {xs : List V}
theorem v_chain3 {r1 r2 r3 : R2} {ta tb tc td : TE} (h : ta σ H fun x H1 => tb σ H1 fun y H2 => r1 x y H2 fun a H3 => ∃ k, a = .bl k ∧
  if k = true then (tc σ H3 fun u H4 => r2 y u H4 fun b H5 => ∃ j, b = .bl j ∧ if j = true then td σ H5 fun w H6 => r3 u w H6 Q else Q (.bl false) H5) else Q (.bl false) H3) : tChain3 r1 r2 r3 ta tb tc td σ H Q := h
theorem w_min2 {i j : Int} (q : Q (.int (if j < i then j else i)) H) : rMin2 [.int i, .int j] H Q := ⟨i, j, rfl, q⟩
theorem flat_ints (r : Row) : (r.map V.int).all flatV = true := by
  rw [List.all_map]
  exact List.all_eq_true.mpr fun _ _ => rfl
theorem inV_ints (z : Int) (r : Row) : inV (.int z) (r.map V.int) = decide (z ∈ r) := by
  unfold inV
  induction r with
  | nil => rfl
  | cons y r ih =>
    rw [List.map_cons, List.any_cons, ih]
    have e : eqV (.int y) (.int z) = decide (z = y) := by
      show (y == z) = _
      by_cases h : z = y
      · rw [decide_eq_true h, h]; simp
      · rw [decide_eq_false h]; simp; exact fun q => h q.symm
    rw [e]
    by_cases h : z = y <;> by_cases h2 : z ∈ r <;> simp [h, h2]
theorem w_in {z : Int} {r : Row} (h : H p = some (.lst (r.map V.int))) (q : Q (.bl (decide (z ∈ r))) H) : rIn K false (.int z) (.ref p) H Q :=
  ⟨p, _, rfl, .inl (SqL.of h), rfl, flat_ints r, by rw [inV_ints]; exact q⟩
theorem w_nin {z : Int} {r : Row} (h : H p = some (.lst (r.map V.int))) (q : Q (.bl (!decide (z ∈ r))) H) : rIn K true (.int z) (.ref p) H Q :=
  ⟨p, _, rfl, .inl (SqL.of h), rfl, flat_ints r, by rw [inV_ints]; exact q⟩
theorem w_index {r : Row} {z : Int} {j : Nat} (h : H p = some (.lst (r.map V.int))) (e : r[j]? = some z) (hn : ∀ m, m < j → r[m]? ≠ some z) (q : Q (.int (j : Int)) H) : rIndex K (.ref p) [.int z] H Q :=
  ⟨p, _, .int z, j, .int z, rfl, rfl, SqL.of h, rfl, flat_ints r, by rw [List.getElem?_map, e]; rfl, by show (z == z) = true; simp, fun m z' hm e' => by
    obtain ⟨y, hy, rfl⟩ := row_at e'
    show (y == z) = false
    have := hn m hm
    rw [hy] at this
    simp
    exact fun q => this (by rw [q]), q⟩
theorem w_sorted {r : Row} (h : H p = some (.lst (r.map V.int))) (q : ∀ (r' : Row) (q : Addr), r'.Perm r → r'.Pairwise (· ≤ ·) → H q = none → Q (.ref q) (upd H q (.lst (r'.map V.int)))) : rSortedI K [.ref p] H Q := ⟨p, r, rfl, SqL.of h, q⟩
theorem v_lstRg {t : TE} (h : t σ H fun x H1 => ∃ n, x = .int n ∧ (RgOk 0 n ∧ ∀ q, H1 q = none → Q (.ref q) (upd H1 q (.lst (rgV 0 n))))) : tLstRg (tRg1 t) σ H Q := h
theorem rgV_nat (n : Nat) : rgV 0 (n : Int) = ((List.range n).map fun i => ((i : Nat) : Int)).map V.int := by
  unfold rgV
  rw [List.map_map]
  have e : ((n : Int) - 0).toNat = n := by omega
  rw [e]
  refine List.map_congr_left fun i _ => ?_
  show V.int (0 + (i : Int)) = V.int (i : Int)
  rw [Int.zero_add]
theorem w_rgL {n : Nat} (hn : n ≤ 1000000) (q : ∀ q, H q = none → Q (.ref q) (upd H q (.lst (((List.range n).map fun i => ((i : Nat) : Int)).map V.int)))) : ∃ m : Int, V.int (n : Int) = .int m ∧ (RgOk 0 m ∧ ∀ q, H q = none → Q (.ref q) (upd H q (.lst (rgV 0 m)))) :=
  ⟨n, rfl, RgOk.of_le (by omega) (by omega) (by omega) (by omega), fun l hl => by rw [rgV_nat]; exact q l hl⟩
theorem w_gtup3 {t : Addr} {x y z : V} {i j k : Nat} {R : L2.St → Hp → Prop} (h : H t = some (.tup [x, y, z])) (q : R (((σ.set i (some x)).set j (some y)).set k (some z)) H) : gTup K 3 (gCons (gName i) (gCons (gName j) (gCons (gName k) gNil))) (.ref t) σ H R :=
  ⟨t, [x, y, z], rfl, SqT.of h, rfl, x, [y, z], rfl, y, [z], rfl, z, [], rfl, rfl, q⟩
/-- [e for TARGET in a list] -/
theorem lcGT {β : Type} [Rep β] (hi : ∀ R : It → Hp → Prop, R (Itl K p) H → wi σ H R) (M : Addr → Prop) (f : Nat → β) (hx : SqL K H p xs) (hz : xs.length ≤ 1000000) (hM : ∀ a, M a → dom H a)
    (he : ∀ (i : Nat) x H1 M1, xs[i]? = some x → Same H H1 → Same (off H M) (off H1 M1) → (∀ a, M1 a → dom H1 a) → ∀ R : VK, (∀ v H2, Same H1 H2 → rep (off H2 M1) v (f i) → R v H2) → g x (wipe σ vs) H1 fun σ2 H2 => wipe σ2 vs = wipe σ vs ∧ te σ2 H2 R)
    (hd : NewL M H ((List.range xs.length).map f) Q) : tLc wi g tYes te vs σ H Q := v_lc (hi _ fun D hD =>
  lc_list (xs := xs) (Lcw H M f D) (.start hD) (fun i H1 _ L => L.s.seq hx) (fun i x H1 hi L => by
    have := he i x H1 (wth M D) hi L.s L.off (fun a h => by
      rcases h with h | h
      · exact dom_same L.s (hM a h)
      · obtain ⟨ys, e, _⟩ := L.l
        exact h ▸ dom_of e) (fun y H4 => ∃ acc, H4 D = some (.lst acc) ∧ acc.length < sizeLine ∧ Lcw H M f D (i + 1) (upd H4 D (.lst (acc ++ [y])))) fun v H2 s r => L.snoc (by have := (List.getElem?_eq_some_iff.mp hi).1; omega) s r
    exact this) fun H' L => by
    obtain ⟨ys, e, a⟩ := L.l
    exact hd D ys H' L.s L.n e a)
theorem atI_last {xs : List V} {v : V} : atI (xs ++ [v]) (-1) = some v := by
  have h : (xs ++ [v]).length = xs.length + 1 := by simp
  have e : (-1 + ((xs.length + 1 : Nat) : Int)).toNat = xs.length := by omega
  unfold atI ixN
  rw [h, if_neg (by decide), if_pos (by omega), Option.bind_some, e]
  simp
theorem w_lastA {v : V} (h : H p = some (.lst xs)) (e : xs.getLast? = some v) (q : Q v H) : rIxL K (.ref p) (.int (-1)) H Q := by
  obtain ⟨ys, rfl⟩ : ∃ ys, xs = ys ++ [v] := by
    rw [List.getLast?_eq_some_iff] at e
    exact e
  exact ⟨p, _, -1, v, rfl, rfl, SqL.of h, atI_last, q⟩
theorem cut_last (r : List V) : cutV r none (some (-1)) = r.dropLast := by
  unfold cutV
  rw [HT.sIx_none]
  have e : HT.sIx r.length r.length (some (-1)) = r.length - 1 := by
    unfold HT.sIx
    simp
    omega
  rw [e, List.drop_zero, List.dropLast_eq_take, Nat.sub_zero]
end
end G
end
section
set_option Elab.async false
set_option linter.all false
set_option maxRecDepth 100000
namespace G
open PySem PySem.Spec PyProof.Rows L2
/-- one comparison or another, as a test -/
theorem pt_ifE {X : Cx} {c a b : Expr} {pos : Pos} {tA : TT} {ta tb : TE} (hc : PT X c tA) (ha : PT X a (tTest ta)) (hb : PT X b (tTest tb)) : PT X (.IfExp c a b pos) (tB (tIf tA ta tb)) := by
  refine ⟨fun pins s σ H Q I h => ?_⟩
  rw [arm_isTrue_IfExp]
  refine wpAny_bind (wpAny_mono (hc.run pins s σ H _ I h) (fun d s1 ⟨H1, I1, q1⟩ => ?_) fun _ _ x => x)
  cases d with
  | true => exact ha.run pins s1 σ H1 Q I1 q1
  | false => exact hb.run pins s1 σ H1 Q I1 q1
end G
end
section
set_option Elab.async false
set_option linter.all false
set_option maxRecDepth 100000
namespace G
open PySem L2 PyProof.Rows
local macro_rules | `(tactic| walk_at "rd") => `(tactic| repeat (first
  | (with_reducible refine v_seq ?_)
  | (with_reducible refine v_asg ?_)
  | (with_reducible refine w_cons ?_)
  | (with_reducible refine w_nil ?_)
  | (with_reducible refine w_op ?_)
  | (with_reducible refine w_c ?_)
  | (with_reducible refine w_I0 ?_)
  | (with_reducible refine w_cb ?_)
  | (with_reducible refine w_call ?_)
  | (with_reducible refine v_ret ?_)
  | (with_reducible refine v_next ?_)
  | (with_reducible refine w_ixR (by assumption) (by assumption) ?_)
  | (with_reducible refine w_ix (by assumption) (by assumption) ?_)
  | (with_reducible refine w_test ?_)
  | (with_reducible refine w_tB ?_)
  | (with_reducible refine w_and ?_)
  | (with_reducible refine w_or ?_)
  | (with_reducible refine w_not ?_)
  | (with_reducible refine w_ifE ?_)
  | (with_reducible refine v_ifS ?_)
  | (with_reducible refine w_tt ?_)
  | (with_reducible refine w_ff ?_)
  | (with_reducible refine w_eqI ?_)
  | (with_reducible refine w_neI ?_)
  | (with_reducible refine w_U ?_)
  | (with_reducible refine w_un ?_)
  | (with_reducible refine w_len (by assumption) ?_)
  | (with_reducible refine w_abs ?_)
  | (with_reducible refine w_int ?_)
  | (with_reducible refine w_isN0 ?_)
  | (with_reducible refine w_isN1 (by assumption) ?_)
  | (with_reducible refine w_isN1 ne_in ?_)
  | (with_reducible refine w_isN1 ne_rn ?_)
  | (with_reducible refine w_notN0 ?_)
  | (with_reducible refine w_notN1 ne_in ?_)
  | (with_reducible refine w_notN1 ne_rn ?_)
  | (with_reducible refine v_lst ?_)
  | (with_reducible refine v_tup ?_)
  | (with_reducible refine w_notN1 (by assumption) ?_)
  | (with_reducible refine v_drop ?_)
  | (with_reducible refine w_bm ?_)
  | (with_reducible refine v_for ?_)
  | (with_reducible refine v_rng1 ?_)
  | (with_reducible refine v_rng2 ?_)
  | (with_reducible refine v_list ?_)
  | (with_reducible refine w_sub ?_)
  | (with_reducible refine v_ip ?_)
  | (with_reducible refine v_augS ?_)
  | (with_reducible refine v_retN ?_)
  | (with_reducible refine w_yes ?_)
  | (with_reducible refine tv_0 ?_)
  | (with_reducible refine nv_0 ?_)
  | (with_reducible refine av_0 ?_)
  | (with_reducible refine tv_1 ?_)
  | (with_reducible refine nv_1 ?_)
  | (with_reducible refine av_1 ?_)
  | (with_reducible refine tv_2 ?_)
  | (with_reducible refine nv_2 ?_)
  | (with_reducible refine av_2 ?_)
  | (with_reducible refine tv_3 ?_)
  | (with_reducible refine nv_3 ?_)
  | (with_reducible refine av_3 ?_)
  | (with_reducible refine tv_4 ?_)
  | (with_reducible refine nv_4 ?_)
  | (with_reducible refine av_4 ?_)
  | (with_reducible refine tv_5 ?_)
  | (with_reducible refine nv_5 ?_)
  | (with_reducible refine av_5 ?_)
  | (with_reducible refine tv_6 ?_)
  | (with_reducible refine nv_6 ?_)
  | (with_reducible refine av_6 ?_)
  | (with_reducible refine tv_7 ?_)
  | (with_reducible refine nv_7 ?_)
  | (with_reducible refine av_7 ?_)
  | (with_reducible refine tv_8 ?_)
  | (with_reducible refine nv_8 ?_)
  | (with_reducible refine av_8 ?_)
  | (with_reducible refine tv_9 ?_)
  | (with_reducible refine nv_9 ?_)
  | (with_reducible refine av_9 ?_)
  | (with_reducible refine tv_10 ?_)
  | (with_reducible refine nv_10 ?_)
  | (with_reducible refine av_10 ?_)
  | (with_reducible refine tv_11 ?_)
  | (with_reducible refine nv_11 ?_)
  | (with_reducible refine av_11 ?_)
  | (with_reducible refine tv_12 ?_)
  | (with_reducible refine nv_12 ?_)
  | (with_reducible refine av_12 ?_)
  | (with_reducible refine tv_13 ?_)
  | (with_reducible refine nv_13 ?_)
  | (with_reducible refine av_13 ?_)
  | (with_reducible refine tv_14 ?_)
  | (with_reducible refine nv_14 ?_)
  | (with_reducible refine av_14 ?_)
  | (with_reducible refine tv_15 ?_)
  | (with_reducible refine nv_15 ?_)
  | (with_reducible refine av_15 ?_)
  | (with_reducible refine tv_16 ?_)
  | (with_reducible refine nv_16 ?_)
  | (with_reducible refine av_16 ?_)
  | (with_reducible refine tv_17 ?_)
  | (with_reducible refine nv_17 ?_)
  | (with_reducible refine av_17 ?_)
  | (with_reducible refine tv_18 ?_)
  | (with_reducible refine nv_18 ?_)
  | (with_reducible refine av_18 ?_)
  | (with_reducible refine tv_19 ?_)
  | (with_reducible refine nv_19 ?_)
  | (with_reducible refine av_19 ?_)
  | (with_reducible refine tv_20 ?_)
  | (with_reducible refine nv_20 ?_)
  | (with_reducible refine av_20 ?_)
  | (with_reducible refine tv_21 ?_)
  | (with_reducible refine nv_21 ?_)
  | (with_reducible refine av_21 ?_)
  | (with_reducible refine tv_22 ?_)
  | (with_reducible refine nv_22 ?_)
  | (with_reducible refine av_22 ?_)
  | (with_reducible refine tv_23 ?_)
  | (with_reducible refine nv_23 ?_)
  | (with_reducible refine av_23 ?_)
  | (with_reducible refine tv_24 ?_)
  | (with_reducible refine nv_24 ?_)
  | (with_reducible refine av_24 ?_)
  | (with_reducible refine tv_25 ?_)
  | (with_reducible refine nv_25 ?_)
  | (with_reducible refine av_25 ?_)
  | (with_reducible refine ⟨_, rfl, ⟨_, SqL.of (by assumption)⟩, ?_⟩)
  | (with_reducible refine ⟨_, rfl, (by omega), (by omega), ?_⟩)
  | (with_reducible refine ⟨w_tyL (by assumption), ?_⟩)
  | (with_reducible refine w_isiII ?_)
  | (with_reducible refine w_isiIB ?_)
  | (with_reducible refine w_isiBB ?_)
  | (with_reducible refine w_isiBI ?_)
  | (with_reducible refine w_isiNL ?_)
  | (with_reducible refine w_isiLL (by assumption) ?_)
  | (with_reducible refine v_sl ?_)
  | (with_reducible refine w_nff ?_)
  | (with_reducible refine w_ntt ?_)
  | (with_reducible refine v_chain ?_)
  | (with_reducible refine v_andV ?_)
  | (with_reducible refine v_orV ?_)
  | (with_reducible refine v_notV ?_)
  | (with_reducible refine v_noP ?_)
  | (with_reducible refine v_part ?_)
  | (with_reducible refine v_fld ?_)
  | (with_reducible refine v_sfld ?_)
  | (with_reducible refine ⟨_, (rfl : V.bl _ = V.bl _), ?_⟩)
  | (with_reducible refine ⟨_, (rfl : V.ref _ = V.ref _), ?_⟩)
  | (with_reducible refine ⟨_, (rfl : [V.int _] = [V.int _]), ?_⟩)
  | (with_reducible refine ⟨_, (rfl : V.int _ = V.int _), ?_⟩)
  | (with_reducible refine ⟨⟨_, SqL.of (by assumption)⟩, ?_⟩)
  | (with_reducible refine ⟨(by (first | omega | (rw [lenV]; omega)) : -(2 ^ 62) ≤ _), (by first | omega | (rw [lenV]; omega)), ?_⟩)
  | (with_reducible refine v_meth ?_)
  | (with_reducible refine v_make ?_)
  | (with_reducible refine w_neBB ?_)
  | (with_reducible refine w_eqBB ?_)
  | (with_reducible refine w_isiRI (by assumption) ?_)
  ))
/-! ### the purse -/
def PurseAt (H : Hp) (p : Addr) : Prop := ∃ a b c : Int, H p = some (.lst [.int a, .int b, .int c])
theorem PurseAt.dom {H : Hp} {p : Addr} (h : PurseAt H p) : dom H p := by
  obtain ⟨a, b, c, e⟩ := h
  exact dom_of e
theorem PurseAt.ne {H H0 : Hp} {p l : Addr} (h : PurseAt H p) (n : H l = none) : l ≠ p := fun z => h.dom (z ▸ n)
theorem PurseAt.same {H H' : Hp} {p : Addr} (h : PurseAt H p) (s : Same H H') : PurseAt H' p := by
  obtain ⟨a, b, c, e⟩ := h
  exact ⟨a, b, c, s _ _ e⟩
theorem PurseAt.upd {H : Hp} {p l : Addr} {o : HO} (h : PurseAt H p) (n : l ≠ p) : PurseAt (upd H l o) p := by
  obtain ⟨a, b, c, e⟩ := h
  exact ⟨a, b, c, by rw [upd_ne n.symm]; exact e⟩
theorem Chg.mut {H H1 : Hp} {p l : Addr} {o : HO} (c : Chg p H H1) (n : H l = none) : Chg p H (upd H1 l o) := fun a u h e => by
  rw [upd_ne (ne_of_none e n)]
  exact c a u h e
theorem Chg.fresh {H H1 : Hp} {p l : Addr} (c : Chg p H H1) (hp : PurseAt H1 p) (n : H1 l = none) : H l = none := by
  have z : l ≠ p := hp.ne (H0 := H) n
  cases e : H l with
  | none => rfl
  | some o => rw [c l o z e] at n; cases n
section
variable {σ : L2.St} {H : Hp} {Q : VK} {K : PySem.W.Frag} {wi : TI} {te : TE} {vs : List Nat} {j : Nat} {p : Addr} {P : Int → Prop}
structure Lcp (H : Hp) (p : Addr) (P : Int → Prop) (D : Addr) (i : Nat) (H' : Hp) : Prop where
  c : Chg p H H'
  pu : PurseAt H' p
  n : H D = none
  l : ∃ r : Row, H' D = some (.lst (r.map V.int)) ∧ r.length = i ∧ ∀ x ∈ r, P x
theorem Lcp.snoc {D : Addr} {i : Nat} {H1 H2 : Hp} {z : Int} (hp : PurseAt H p) (L : Lcp H p P D i H1) (hi : i < 1000000) (hz : P z) (c : Chg p H1 H2) (pu : PurseAt H2 p) :
    ∃ acc, H2 D = some (.lst acc) ∧ acc.length < sizeLine ∧ Lcp H p P D (i + 1) (upd H2 D (.lst (acc ++ [V.int z]))) := by
  obtain ⟨r, e, hl, h⟩ := L.l
  have n := hp.ne (H0 := H) L.n
  refine ⟨_, c _ _ n e, ?_, ⟨(L.c.trans c).mut L.n, pu.upd n, L.n, r ++ [z], ?_, ?_, ?_⟩⟩
  · rw [lenV, hl]
    exact Nat.lt_of_lt_of_le hi (by decide)
  · rw [List.map_append]
    exact upd_same
  · rw [List.length_append, hl]
    rfl
  · intro x hx
    rcases List.mem_append.mp hx with hx | hx
    · exact h x hx
    · rw [List.mem_singleton.mp hx]
      exact hz
/-- a new row by draws -/
def NewP (p : Addr) (n : Nat) (P : Int → Prop) (H : Hp) (Q : VK) : Prop := ∀ (D : Addr) (r : Row) (H' : Hp), Chg p H H' → PurseAt H' p → H D = none → H' D = some (.lst (r.map V.int)) → r.length = n → (∀ x ∈ r, P x) → Q (.ref D) H'
theorem lcRP {n : Nat} (hi : ∀ R : It → Hp → Prop, R (Itr 0 n) H → wi σ H R) (hp : PurseAt H p) (hz : n ≤ 1000000) (hw : ∀ x, wipe ((wipe σ vs).set j (some x)) vs = wipe σ vs)
    (he : ∀ (i : Nat) H1, i < n → Chg p H H1 → PurseAt H1 p → ∀ R : VK, (∀ z H2, P z → Chg p H1 H2 → PurseAt H2 p → R (.int z) H2) → te ((wipe σ vs).set j (some (.int (i : Int)))) H1 R)
    (hd : NewP p n P H Q) : tLc wi (gName j) tYes te vs σ H Q := v_lc (hi _ fun D hD =>
  lc_range (lo := 0) (n := n) (Lcp H p P D) ⟨(Chg.refl H).mut hD, hp.upd (hp.ne (H0 := H) hD), hD, [], upd_same, rfl, fun _ h => by cases h⟩ (fun i H1 hi L => by
    refine ⟨hw _, ?_⟩
    have e0 : (0 : Int) + (i : Int) = (i : Int) := Int.zero_add _
    rw [e0]
    refine w_yes ?_
    refine iteT ?_
    exact he i H1 hi L.c L.pu _ fun z H2 hz c pu => L.snoc hp (by omega) hz c pu) fun H' L => by
    obtain ⟨r, e, hl, h⟩ := L.l
    exact hd D r H' L.c L.pu L.n e hl h)
theorem lcLP {q : Addr} {xs : List V} (hi : ∀ R : It → Hp → Prop, R (Itl K q) H → wi σ H R) (hp : PurseAt H p) (hx : H q = some (.lst xs)) (hq : q ≠ p) (hz : xs.length ≤ 1000000) (hw : ∀ x, wipe ((wipe σ vs).set j (some x)) vs = wipe σ vs)
    (he : ∀ (i : Nat) x H1, xs[i]? = some x → Chg p H H1 → PurseAt H1 p → ∀ R : VK, (∀ z H2, P z → Chg p H1 H2 → PurseAt H2 p → R (.int z) H2) → te ((wipe σ vs).set j (some x)) H1 R)
    (hd : NewP p xs.length P H Q) : tLc wi (gName j) tYes te vs σ H Q := v_lc (hi _ fun D hD =>
  lc_list (xs := xs) (Lcp H p P D) ⟨(Chg.refl H).mut hD, hp.upd (hp.ne (H0 := H) hD), hD, [], upd_same, rfl, fun _ h => by cases h⟩ (fun i H1 _ L => SqL.of (L.c _ _ hq hx)) (fun i x H1 hi L => by
    refine ⟨hw _, ?_⟩
    refine w_yes ?_
    refine iteT ?_
    exact he i x H1 hi L.c L.pu _ fun z H2 hz c pu => L.snoc hp (by have := (List.getElem?_eq_some_iff.mp hi).1; omega) hz c pu) fun H' L => by
    obtain ⟨r, e, hl, h⟩ := L.l
    exact hd D r H' L.c L.pu L.n e hl h)
/-- [e for x in a list made there] -/
theorem lcLrS {G : Addr → Hp → Prop} (xs : List V) (hi : ∀ R : It → Hp → Prop, (∀ q H1, G q H1 → R (Itl K q) H1) → wi σ H R) (f : Nat → Int) (hx : ∀ q H1, G q H1 → SqL K H1 q xs) (hz : xs.length ≤ 1000000) (hw : ∀ x, wipe ((wipe σ vs).set j (some x)) vs = wipe σ vs)
    (he : ∀ (i : Nat) x H1, xs[i]? = some x → ∀ R : VK, (∀ H2, Same H1 H2 → R (.int (f i)) H2) → te ((wipe σ vs).set j (some x)) H1 R)
    (hd : ∀ q H1, G q H1 → NewR H1 ((List.range xs.length).map f) Q) : tLc wi (gName j) tYes te vs σ H Q := v_lc (hi _ fun q H1 g => lcLr f (hx q H1 g) hz hw (fun i x H2 hi _ R k => he i x H2 hi R k) (hd q H1 g))
theorem w_setAt {q : Addr} {xs : List V} {v : V} {R : Hp → Prop} (i : Nat) (z : Int) (hz : z = (i : Int)) (h : H q = some (.lst xs)) (e : i < xs.length) (r : R (upd H q (.lst (xs.set i v)))) : rSetG (.ref q) (.int z) v H R := ⟨q, xs, i, rfl, by rw [hz], h, e, r⟩
end
section
variable {Z : Ctx} {vs : List V} {H : Hp} {Q : VK} {E : XK}
def sp_law_purse (Z : Ctx) : Sp := fun vs H Q _ => ∃ p, ∃ n : Nat, ∃ z : Int, ∃ r : Row, vs = [.ref p, .int z] ∧ z = (n : Int) ∧ SqL Z.K H p (r.map V.int) ∧ r.length ≤ 1000 ∧ ∀ q H', Same H H' → H q = none → PurseAt H' q → Q (.ref q) H'
abbrev r_law_purse (Z : Ctx) : TS := (tSeq (tAsg (tIf (tTest (tOp rLtI (tVar 1) (tCB (rLenG Z.K) (tCons (tVar 0) tNil)))) (tCB rIntG (tCons (tOp (rIxG Z.K) (tVar 0) (tVar 1)) tNil)) (tOp rMulI (tC (.int 31)) (tCB (rSum Z.K) (tCons (tLc (iList Z.K (tSl (rSlL Z.K) (tVar 0) tNoPart (tPart (tC (.int 4))))) (gName 3) tYes (tCB rIntG (tCons (tVar 3) tNil)) [3]) tNil)))) (gName 2)) (tSeq (tAsg (tOp rAddI (tOp rMulI (tC (.int 2)) (tCB rAbsG (tCons (tVar 2) tNil))) (tIf (tTest (tOp rLtI (tVar 2) (tC (.int 0)))) (tC (.int 1)) (tC (.int 0)))) (gName 4)) (tRet (tLst (tCons (tIf (tTest (tOp rGeI (tVar 4) (tOp rPowI (tC (.int 10)) (tC (.int 18))))) (tVar 4) (tC (.int 0))) (tCons (tOp rModI (tCB rIntG (tCons (tOp rAddI (tOp rAddI (tVar 4) (tOp rMulI (tVar 1) (tC (.int 104729)))) (tC (.int 12345))) tNil)) (tC (.int 2147483629))) (tCons (tVar 1) tNil)))))))
theorem ln_law_purse : sp_law_purse Z vs H Q E → vs.length = 2 := by rintro ⟨_, _, _, _, rfl, _⟩; rfl
abbrev nm_law_purse : List Str := ["script", "at", "cell", "one", "size"]
theorem cpow (j : Int) (h1 : 0 ≤ j) (h2 : j ≤ 1000000) : CPow 10 j := ⟨h1, h2, by decide⟩
theorem bdc {i : Int} (h : i.natAbs < 2 ^ 64) : Bd 64 i := h
theorem rd_law_purse (h : sp_law_purse Z vs H Q E) : r_law_purse Z (ends Q) (L2.start nm_law_purse vs) H := by
  obtain ⟨p, n, z, r, rfl, rfl, hs, hl, k⟩ := h
  show r_law_purse Z (ends Q) [some (.ref p), some (.int (n : Int)), none, none, none] H
  unfold r_law_purse ends
  walk_at "rd"
  refine ⟨p, _, rfl, .inl hs, ?_⟩
  walk_at "rd"
  refine w_ite (fun h => ?_) (fun h => ?_)
  · rw [lenV] at h
    have g := at0_get (r := r) (i := n) (by omega)
    walk_at "rd"
    refine ⟨p, _, n, .int (at0 r n), rfl, rfl, hs, by rw [List.getElem?_map, g]; rfl, ?_⟩
    walk_at "rd"
    generalize at0 r n = c
    refine w_I (.l (bdc (by decide))) ?_
    walk_at "rd"
    refine w_ite (fun h => ?_) (fun h => ?_) <;>
    · walk_at "rd"
      refine w_I (cpow _ (by decide) (by decide)) ?_
      walk_at "rd"
      refine w_ite (fun h => ?_) (fun h => ?_) <;>
      · walk_at "rd"
        refine w_I (.r (bdc (by decide))) ?_
        walk_at "rd"
        refine w_I (by decide) ?_
        walk_at "rd"
        exact ⟨small _ (by simp), fun q hq => k q _ (same_new hq) hq ⟨_, _, _, upd_same⟩⟩
  · walk_at "rd"
    refine lcLrS (K := Z.K) (G := fun q H1 => H q = none ∧ H1 = upd H q (.lst (cutV (r.map V.int) none (some 4)))) (cutV (r.map V.int) none (some 4)) (fun R h => ?_) (fun i => at0 (r.take 4) i) (fun q H1 g => ?_) ?_ (fun _ => rfl) (fun i x H1 hi R k => ?_) (fun q H1 g => ?_)
    · walk_at "rd"
      refine ⟨p, _, rfl, hs, fun q hq => ?_⟩
      exact ⟨q, rfl, ⟨_, SqL.of upd_same⟩, h q _ ⟨hq, rfl⟩⟩
    · obtain ⟨_, rfl⟩ := g
      exact SqL.of upd_same
    · rw [show (some (4 : Int)) = some ((4 : Nat) : Int) from rfl, cut_to, List.length_take]
      omega
    · rw [show (some (4 : Int)) = some ((4 : Nat) : Int) from rfl, cut_to, ← List.map_take] at hi
      obtain ⟨y, hy, rfl⟩ := row_at hi
      obtain rfl := at0_some hy
      show tCB _ _ [some (.ref p), some (.int (n : Int)), none, some (.int (at0 (r.take 4) i)), none] H1 R
      walk_at "rd"
      exact k _ (.refl _)
    · obtain ⟨hq, rfl⟩ := g
      intro q2 H2 s2 n2 e2
      walk_at "rd"
      refine w_sum e2 ?_
      generalize (List.map (fun i => at0 (r.take 4) i) _ : Row).sum = c
      walk_at "rd"
      refine w_I (.l (bdc (by decide))) ?_
      walk_at "rd"
      generalize 31 * c = c
      refine w_I (.l (bdc (by decide))) ?_
      walk_at "rd"
      refine w_ite (fun h => ?_) (fun h => ?_) <;>
      · walk_at "rd"
        refine w_I (cpow _ (by decide) (by decide)) ?_
        walk_at "rd"
        refine w_ite (fun h => ?_) (fun h => ?_) <;>
        · walk_at "rd"
          refine w_I (.r (bdc (by decide))) ?_
          walk_at "rd"
          refine w_I (by decide) ?_
          walk_at "rd"
          exact ⟨small _ (by simp), fun q3 hq3 => k q3 _ (((same_new hq).trans s2).trans (same_new hq3)) ((same_new hq).free (s2.free hq3)) ⟨_, _, _, upd_same⟩⟩
/-- a draw -/
def sp_law_draw (Z : Ctx) : Sp := fun vs H Q _ => ∃ p, ∃ n : Int, vs = [.ref p, .int n] ∧ PurseAt H p ∧ 0 < n ∧ ∀ (z : Int) H', Chg p H H' → PurseAt H' p → 0 ≤ z → z < n → Q (.int z) H'
abbrev r_law_draw (Z : Ctx) : TS := (tSeq (tIfS (tTest (tOp rGtI (tOp (rIxG Z.K) (tVar 0) (tC (.int 0))) (tC (.int 0)))) (tSeq (tAsg (tOp rModI (tCB rIntG (tCons (tOp (rIxG Z.K) (tVar 0) (tC (.int 0))) tNil)) (tVar 1)) (gName 2)) (tSeq (tAsg (tOp rDivI (tOp (rIxG Z.K) (tVar 0) (tC (.int 0))) (tVar 1)) (gSub (tVar 0) (tC (.int 0)) rSetG)) (tRet (tVar 2)))) tNext) (tSeq (tAugS (tVar 0) (tC (.int 2)) (tC (.int 1)) (rIxG Z.K) (ipI fun i j => i + j) rSetG) (tSeq (tAsg (tOp rModI (tCB rIntG (tCons (tOp rAddI (tOp rMulI (tOp (rIxG Z.K) (tVar 0) (tC (.int 1))) (tC (.int 48271))) (tOp rMulI (tOp (rIxG Z.K) (tVar 0) (tC (.int 2))) (tC (.int 69621)))) tNil)) (tC (.int 2147483647))) (gSub (tVar 0) (tC (.int 1)) rSetG)) (tRet (tOp rModI (tOp rDivI (tOp rModI (tCB rIntG (tCons (tOp rAddI (tOp rMulI (tOp (rIxG Z.K) (tVar 0) (tC (.int 1))) (tC (.int 16807))) (tOp rMulI (tOp (rIxG Z.K) (tVar 0) (tC (.int 2))) (tC (.int 7919)))) tNil)) (tC (.int 2147483629))) (tC (.int 8))) (tVar 1))))))
theorem ln_law_draw : sp_law_draw Z vs H Q E → vs.length = 2 := by rintro ⟨_, _, rfl, _⟩; rfl
abbrev nm_law_draw : List Str := ["purse", "many", "found"]
theorem rd_law_draw (h : sp_law_draw Z vs H Q E) : r_law_draw Z (ends Q) (L2.start nm_law_draw vs) H := by
  obtain ⟨p, n, rfl, ⟨a, b, c, hp⟩, hn, k⟩ := h
  have hn0 : n ≠ 0 := by omega
  show r_law_draw Z (ends Q) [some (.ref p), some (.int n), none] H
  unfold r_law_draw ends
  walk_at "rd"
  refine w_ixAt 0 0 rfl hp rfl ?_
  walk_at "rd"
  refine w_ite (fun h => ?_) (fun h => ?_)
  · walk_at "rd"
    refine w_ixAt 0 0 rfl hp rfl ?_
    walk_at "rd"
    refine w_I hn0 ?_
    walk_at "rd"
    refine w_ixAt 0 0 rfl hp rfl ?_
    walk_at "rd"
    refine w_I hn0 ?_
    walk_at "rd"
    refine w_setAt 0 0 rfl hp (by simp) ?_
    walk_at "rd"
    exact k _ _ chg_upd ⟨_, _, _, upd_same⟩ (Int.fmod_nonneg_of_pos _ hn) (Int.fmod_lt_of_pos _ hn)
  · walk_at "rd"
    refine w_ixAt 2 2 rfl hp rfl ?_
    walk_at "rd"
    refine w_setAt 2 2 rfl hp (by simp) ?_
    have c1 : Chg p H (upd H p (.lst ([V.int a, .int b, .int c].set 2 (.int (c + 1))))) := chg_upd
    have h1 : (upd H p (.lst ([V.int a, .int b, .int c].set 2 (.int (c + 1))))) p = some (.lst [V.int a, .int b, .int (c + 1)]) := upd_same
    generalize upd H p (.lst ([V.int a, .int b, .int c].set 2 (.int (c + 1)))) = H1 at c1 h1
    walk_at "rd"
    refine w_ixAt 1 1 rfl h1 rfl ?_
    walk_at "rd"
    refine w_I (.r (bdc (by decide))) ?_
    walk_at "rd"
    refine w_ixAt 2 2 rfl h1 rfl ?_
    walk_at "rd"
    refine w_I (.r (bdc (by decide))) ?_
    walk_at "rd"
    refine w_I (by decide) ?_
    walk_at "rd"
    refine w_setAt 1 1 rfl h1 (by simp) ?_
    generalize Int.fmod _ _ = d
    have c2 : Chg p H (upd H1 p (.lst ([V.int a, .int b, .int (c + 1)].set 1 (.int d)))) := c1.trans chg_upd
    have h2 : (upd H1 p (.lst ([V.int a, .int b, .int (c + 1)].set 1 (.int d)))) p = some (.lst [V.int a, .int d, .int (c + 1)]) := upd_same
    generalize upd H1 p (.lst ([V.int a, .int b, .int (c + 1)].set 1 (.int d))) = H2 at c2 h2
    walk_at "rd"
    refine w_ixAt 1 1 rfl h2 rfl ?_
    walk_at "rd"
    refine w_I (.r (bdc (by decide))) ?_
    walk_at "rd"
    refine w_ixAt 2 2 rfl h2 rfl ?_
    walk_at "rd"
    refine w_I (.r (bdc (by decide))) ?_
    walk_at "rd"
    refine w_I (by decide) ?_
    walk_at "rd"
    refine w_I (by decide) ?_
    walk_at "rd"
    refine w_I hn0 ?_
    exact k _ _ c2 ⟨_, _, _, h2⟩ (Int.fmod_nonneg_of_pos _ hn) (Int.fmod_lt_of_pos _ hn)
def sp_law_less (Z : Ctx) : Sp := fun vs H Q _ => ∃ v n u, ∃ r o : Row, vs = [v, .int n, u] ∧ rep H v r ∧ rep H u o ∧ r.length = o.length ∧ r.length ≤ 1000 ∧ (∀ i, CMulG n (at0 o i)) ∧ NewR H (less r n o) Q
abbrev r_law_less (Z : Ctx) : TS := (tRet (tLc (iRng1 (tCons (tCB (rLenG Z.K) (tCons (tVar 0) tNil)) tNil)) (gName 3) tYes (tOp rSubI (tOp (rIxG Z.K) (tVar 0) (tVar 3)) (tOp rMulI (tVar 1) (tOp (rIxG Z.K) (tVar 2) (tVar 3)))) [3]))
theorem ln_law_less : sp_law_less Z vs H Q E → vs.length = 3 := by rintro ⟨_, _, _, _, _, rfl, _⟩; rfl
abbrev nm_law_less : List Str := ["row", "number", "other", "place"]
theorem rd_law_less (h : sp_law_less Z vs H Q E) : r_law_less Z (ends Q) (L2.start nm_law_less vs) H := by
  obtain ⟨v, n, u, r, o, rfl, hr, ho, hl, hz, hc, k⟩ := h
  obtain ⟨p, rfl, hp⟩ := rep_row.mp hr
  obtain ⟨q, rfl, hq⟩ := rep_row.mp ho
  show r_law_less Z (ends Q) [some (.ref p), some (.int n), some (.ref q), none] H
  unfold r_law_less ends
  walk_at "rd"
  refine lcRrT (n := (r.map V.int).length) (fun R h => by walk_at "rd"; exact h) (fun i => at0 r i - n * at0 o i) (by rw [lenV]; omega) (fun _ => rfl) (fun i H1 hi s R k => ?_) ?_
  · rw [lenV] at hi
    have h1 := s _ _ hp
    have h2 := s _ _ hq
    have e1 := at0_get (r := r) (i := i) hi
    have e2 := at0_get (r := o) (i := i) (by omega)
    show (tOp _ _ _) [some (.ref p), some (.int n), some (.ref q), some (.int (i : Int))] H1 R
    walk_at "rd"
    refine w_I (hc i) ?_
    walk_at "rd"
    exact k _ (Same.refl _)
  · rw [lenV]
    exact k
def sp_law_zero (Z : Ctx) : Sp := fun vs H Q _ => ∃ (v : V) (r : Row), vs = [v] ∧ rep H v r ∧ r.length ≤ 1000 ∧ ∀ H', Same H H' → Q (.bl (r.all (· == 0))) H'
abbrev r_law_zero (Z : Ctx) : TS := (tRet (tOp rEq (tCB (rLenG Z.K) (tCons (tLc (iList Z.K (tVar 0)) (gName 1) (tTest (tOp rNe (tVar 1) (tC (.int 0)))) (tVar 1) [1]) tNil)) (tC (.int 0))))
theorem ln_law_zero : sp_law_zero Z vs H Q E → vs.length = 1 := by rintro ⟨_, _, rfl, _⟩; rfl
abbrev nm_law_zero : List Str := ["row", "one"]
theorem rd_law_zero (h : sp_law_zero Z vs H Q E) : r_law_zero Z (ends Q) (L2.start nm_law_zero vs) H := by
  obtain ⟨v, r, rfl, hr, hl0, k⟩ := h
  obtain ⟨p, rfl, hp⟩ := rep_row.mp hr
  show r_law_zero Z (ends Q) [some (.ref p), none] H
  unfold r_law_zero ends
  walk_at "rd"
  refine lcLF (β := Int) (xs := r.map V.int) (fun R h => by walk_at "rd"; exact h) (dom _) (fun i => decide (at0 r i ≠ 0)) (fun i => at0 r i) (SqL.of hp) (by rw [lenV]; omega) (fun _ h => h) (fun _ => rfl) (fun i x H1 hi s R k => ?_) (fun i x H1 M1 hi hf s _ _ R k => ?_) ?_
  · obtain ⟨z, hz, rfl⟩ := row_at hi
    obtain rfl := at0_some hz
    show tTest _ [some (.ref p), some (.int (at0 r i))] H1 R
    walk_at "rd"
    exact k _ (.refl _)
  · obtain ⟨z, hz, rfl⟩ := row_at hi
    obtain rfl := at0_some hz
    show tVar 1 [some (.ref p), some (.int (at0 r i))] H1 R
    walk_at "rd"
    exact k _ _ (.refl _) rfl
  · intro l xs H1 s1 n1 e1 a1
    have hl := a1.len
    rw [List.length_map, lenV] at hl
    walk_at "rd"
    have e : decide ((xs.length : Int) = 0) = r.all (· == 0) := by
      by_cases q : r.all (· == 0) = true
      · rw [q]
        have : (List.range r.length).filter (fun i => decide (at0 r i ≠ 0)) = [] := List.filter_eq_nil_iff.mpr fun i _ => by
          have := isz_iff.mp q i
          simp [this]
        rw [this] at hl
        simp at hl
        simp [hl]
      · rw [Bool.not_eq_true] at q
        rw [q]
        refine decide_eq_false fun z => ?_
        have z2 : ((List.range r.length).filter (fun i => decide (at0 r i ≠ 0))) = [] := List.eq_nil_of_length_eq_zero (by omega)
        rw [List.filter_eq_nil_iff] at z2
        have : isz r = true := isz_iff.mpr fun i => by
          by_cases hi : i < r.length
          · have := z2 i (List.mem_range.mpr hi)
            simpa using this
          · exact at0_out (by omega)
        unfold isz at this
        rw [q] at this
        cases this
    rw [e]
    exact k _ s1
end
end G
end
section
set_option Elab.async false
set_option linter.all false
set_option maxRecDepth 100000
namespace G
open PySem L2 PyProof.Rows
local macro_rules | `(tactic| walk_at "rd") => `(tactic| repeat (first
  | (with_reducible refine v_seq ?_)
  | (with_reducible refine v_asg ?_)
  | (with_reducible refine w_cons ?_)
  | (with_reducible refine w_nil ?_)
  | (with_reducible refine w_op ?_)
  | (with_reducible refine w_c ?_)
  | (with_reducible refine w_I0 ?_)
  | (with_reducible refine w_cb ?_)
  | (with_reducible refine w_call ?_)
  | (with_reducible refine v_ret ?_)
  | (with_reducible refine v_next ?_)
  | (with_reducible refine w_ixR (by assumption) (by assumption) ?_)
  | (with_reducible refine w_ix (by assumption) (by assumption) ?_)
  | (with_reducible refine w_test ?_)
  | (with_reducible refine w_tB ?_)
  | (with_reducible refine w_and ?_)
  | (with_reducible refine w_or ?_)
  | (with_reducible refine w_not ?_)
  | (with_reducible refine w_ifE ?_)
  | (with_reducible refine v_ifS ?_)
  | (with_reducible refine w_tt ?_)
  | (with_reducible refine w_ff ?_)
  | (with_reducible refine w_eqI ?_)
  | (with_reducible refine w_neI ?_)
  | (with_reducible refine w_U ?_)
  | (with_reducible refine w_un ?_)
  | (with_reducible refine w_len (by assumption) ?_)
  | (with_reducible refine w_abs ?_)
  | (with_reducible refine w_int ?_)
  | (with_reducible refine w_isN0 ?_)
  | (with_reducible refine w_isN1 (by assumption) ?_)
  | (with_reducible refine w_isN1 ne_in ?_)
  | (with_reducible refine w_isN1 ne_rn ?_)
  | (with_reducible refine w_notN0 ?_)
  | (with_reducible refine w_notN1 ne_in ?_)
  | (with_reducible refine w_notN1 ne_rn ?_)
  | (with_reducible refine v_lst ?_)
  | (with_reducible refine v_tup ?_)
  | (with_reducible refine w_notN1 (by assumption) ?_)
  | (with_reducible refine v_drop ?_)
  | (with_reducible refine w_bm ?_)
  | (with_reducible refine v_for ?_)
  | (with_reducible refine v_rng1 ?_)
  | (with_reducible refine v_rng2 ?_)
  | (with_reducible refine v_list ?_)
  | (with_reducible refine w_sub ?_)
  | (with_reducible refine v_ip ?_)
  | (with_reducible refine v_augS ?_)
  | (with_reducible refine v_retN ?_)
  | (with_reducible refine w_yes ?_)
  | (with_reducible refine tv_0 ?_)
  | (with_reducible refine nv_0 ?_)
  | (with_reducible refine av_0 ?_)
  | (with_reducible refine tv_1 ?_)
  | (with_reducible refine nv_1 ?_)
  | (with_reducible refine av_1 ?_)
  | (with_reducible refine tv_2 ?_)
  | (with_reducible refine nv_2 ?_)
  | (with_reducible refine av_2 ?_)
  | (with_reducible refine tv_3 ?_)
  | (with_reducible refine nv_3 ?_)
  | (with_reducible refine av_3 ?_)
  | (with_reducible refine tv_4 ?_)
  | (with_reducible refine nv_4 ?_)
  | (with_reducible refine av_4 ?_)
  | (with_reducible refine tv_5 ?_)
  | (with_reducible refine nv_5 ?_)
  | (with_reducible refine av_5 ?_)
  | (with_reducible refine tv_6 ?_)
  | (with_reducible refine nv_6 ?_)
  | (with_reducible refine av_6 ?_)
  | (with_reducible refine tv_7 ?_)
  | (with_reducible refine nv_7 ?_)
  | (with_reducible refine av_7 ?_)
  | (with_reducible refine tv_8 ?_)
  | (with_reducible refine nv_8 ?_)
  | (with_reducible refine av_8 ?_)
  | (with_reducible refine tv_9 ?_)
  | (with_reducible refine nv_9 ?_)
  | (with_reducible refine av_9 ?_)
  | (with_reducible refine tv_10 ?_)
  | (with_reducible refine nv_10 ?_)
  | (with_reducible refine av_10 ?_)
  | (with_reducible refine tv_11 ?_)
  | (with_reducible refine nv_11 ?_)
  | (with_reducible refine av_11 ?_)
  | (with_reducible refine tv_12 ?_)
  | (with_reducible refine nv_12 ?_)
  | (with_reducible refine av_12 ?_)
  | (with_reducible refine tv_13 ?_)
  | (with_reducible refine nv_13 ?_)
  | (with_reducible refine av_13 ?_)
  | (with_reducible refine tv_14 ?_)
  | (with_reducible refine nv_14 ?_)
  | (with_reducible refine av_14 ?_)
  | (with_reducible refine tv_15 ?_)
  | (with_reducible refine nv_15 ?_)
  | (with_reducible refine av_15 ?_)
  | (with_reducible refine tv_16 ?_)
  | (with_reducible refine nv_16 ?_)
  | (with_reducible refine av_16 ?_)
  | (with_reducible refine tv_17 ?_)
  | (with_reducible refine nv_17 ?_)
  | (with_reducible refine av_17 ?_)
  | (with_reducible refine tv_18 ?_)
  | (with_reducible refine nv_18 ?_)
  | (with_reducible refine av_18 ?_)
  | (with_reducible refine tv_19 ?_)
  | (with_reducible refine nv_19 ?_)
  | (with_reducible refine av_19 ?_)
  | (with_reducible refine tv_20 ?_)
  | (with_reducible refine nv_20 ?_)
  | (with_reducible refine av_20 ?_)
  | (with_reducible refine tv_21 ?_)
  | (with_reducible refine nv_21 ?_)
  | (with_reducible refine av_21 ?_)
  | (with_reducible refine tv_22 ?_)
  | (with_reducible refine nv_22 ?_)
  | (with_reducible refine av_22 ?_)
  | (with_reducible refine tv_23 ?_)
  | (with_reducible refine nv_23 ?_)
  | (with_reducible refine av_23 ?_)
  | (with_reducible refine tv_24 ?_)
  | (with_reducible refine nv_24 ?_)
  | (with_reducible refine av_24 ?_)
  | (with_reducible refine tv_25 ?_)
  | (with_reducible refine nv_25 ?_)
  | (with_reducible refine av_25 ?_)
  | (with_reducible refine ⟨_, rfl, ⟨_, SqL.of (by assumption)⟩, ?_⟩)
  | (with_reducible refine ⟨_, rfl, (by omega), (by omega), ?_⟩)
  | (with_reducible refine ⟨w_tyL (by assumption), ?_⟩)
  | (with_reducible refine w_isiII ?_)
  | (with_reducible refine w_isiIB ?_)
  | (with_reducible refine w_isiBB ?_)
  | (with_reducible refine w_isiBI ?_)
  | (with_reducible refine w_isiNL ?_)
  | (with_reducible refine w_isiLL (by assumption) ?_)
  | (with_reducible refine v_sl ?_)
  | (with_reducible refine w_nff ?_)
  | (with_reducible refine w_ntt ?_)
  | (with_reducible refine v_chain ?_)
  | (with_reducible refine v_andV ?_)
  | (with_reducible refine v_orV ?_)
  | (with_reducible refine v_chain3 ?_)
  | (with_reducible refine w_min2 ?_)
  | (with_reducible refine v_lstRg ?_)
  | (with_reducible refine w_in (by assumption) ?_)
  | (with_reducible refine w_nin (by assumption) ?_)
  | (with_reducible refine v_notV ?_)
  | (with_reducible refine v_noP ?_)
  | (with_reducible refine v_part ?_)
  | (with_reducible refine v_fld ?_)
  | (with_reducible refine v_sfld ?_)
  | (with_reducible refine ⟨_, (rfl : V.bl _ = V.bl _), ?_⟩)
  | (with_reducible refine ⟨_, (rfl : V.ref _ = V.ref _), ?_⟩)
  | (with_reducible refine ⟨_, (rfl : [V.int _] = [V.int _]), ?_⟩)
  | (with_reducible refine ⟨_, (rfl : V.int _ = V.int _), ?_⟩)
  | (with_reducible refine ⟨⟨_, SqL.of (by assumption)⟩, ?_⟩)
  | (with_reducible refine ⟨(by (first | omega | (rw [lenV]; omega)) : -(2 ^ 62) ≤ _), (by first | omega | (rw [lenV]; omega)), ?_⟩)
  | (with_reducible refine v_meth ?_)
  | (with_reducible refine v_make ?_)
  | (with_reducible refine w_neBB ?_)
  | (with_reducible refine w_eqBB ?_)
  | (with_reducible refine w_isiRI (by assumption) ?_)
  ))
section
variable {σ : L2.St} {H : Hp} {Q : VK} {nx bk ct : L2.St → Hp → Prop} {rt : VK} {K : PySem.W.Frag} {wi : TI} {te : TE} {tt : TT} {vs : List Nat} {j : Nat} {g : TG} {p : Addr} {xs : List V}
theorem forT {tb : TS} (Pv : Nat → L2.St → Hp → Prop) (h0 : Pv 0 σ H) (hl : ∀ i σ H, i ≤ xs.length → Pv i σ H → SqT K H p xs)
    (hs : ∀ i x σ H, xs[i]? = some x → Pv i σ H → g x σ H fun σ2 H2 => tb ⟨Pv (i + 1), rt, nx, Pv (i + 1)⟩ σ2 H2) (hd : ∀ σ H, Pv xs.length σ H → nx σ H) :
    ∃ W : Nat → Nat → L2.St → Hp → Prop, (∃ m, W 0 m σ H) ∧ ∀ i m σ H, W i m σ H →
      ((Itt K p).stop i H ∧ nx σ H) ∨ ((Itt K p).go i H ∧ ∃ N : L2.St → Hp → Prop, (∀ σ' H', N σ' H' → ∃ m', m' < m ∧ W (i + 1) m' σ' H') ∧ ∀ x H', (Itt K p).yld i H x H' → g x σ H' fun σ2 H2 => tb ⟨N, rt, nx, N⟩ σ2 H2) :=
  for_tup (D := ⟨nx, rt, nx, nx⟩) Pv h0 hl hs hd
/-- a list or a tuple of numbers -/
def SqI (K : PySem.W.Frag) (H : Hp) (v : V) (r : Row) : Prop := ∃ p, v = .ref p ∧ (H p = some (.lst (r.map V.int)) ∨ H p = some (.tup (r.map V.int)))
theorem w_isiTT {tp : Addr} (h : H p = some (.tup xs)) (ht : H tp = some (.tup [.ty "list", .ty "tuple"])) (q : Q (.bl true) H) : rIsiT K [.ref p, .ref tp] H Q :=
  ⟨.ref p, tp, _, .type "tuple", [.type "list", .type "tuple"], true, rfl, ht, .cons (.ty _) (.cons (.ty _) .nil), .base (.tup h), kitAny_cons (b := false) (kit_ty (by decide +kernel)) (fun z => kitAny_cons (b := true) (kit_ty (by decide +kernel)) (fun z => by cases z) (fun _ => rfl)) (fun z => by cases z), q⟩
theorem w_lenT (h : H p = some (.tup xs)) (q : Q (.int (xs.length : Nat)) H) : rLenG K [.ref p] H Q := ⟨p, xs, rfl, .inr (SqT.of h), q⟩
theorem v_eith {a b : TI} {R : It → Hp → Prop} (h : a σ H R ∨ b σ H R) : iEith a b σ H R := h
theorem v_tupE {R : It → Hp → Prop} (h : te σ H fun x H1 => ∃ a, x = .ref a ∧ (∃ xs, SqT K H1 a xs) ∧ R (Itt K a) H1) : iTup K te σ H R := h
theorem forS {tb : TS} {v : V} {r : Row} {t : TE} (h : SqI K H v r) (ht : ∀ R : VK, R v H → t σ H R) (Pv : Nat → L2.St → Hp → Prop) (h0 : Pv 0 σ H) (hl : ∀ i σ' H', Pv i σ' H' → Same H H')
    (hs : ∀ (i : Nat) (z : Int) σ H, r[i]? = some z → Pv i σ H → g (.int z) σ H fun σ2 H2 => tb ⟨Pv (i + 1), rt, nx, Pv (i + 1)⟩ σ2 H2) (hd : ∀ σ H, Pv r.length σ H → nx σ H) : tFor (iEith (iList K t) (iTup K t)) g tb ⟨nx, rt, bk, ct⟩ σ H := by
  obtain ⟨p, rfl, hp⟩ := h
  refine v_for (v_eith ?_)
  have st : ∀ i x σ H, (r.map V.int)[i]? = some x → Pv i σ H → g x σ H fun σ2 H2 => tb ⟨Pv (i + 1), rt, nx, Pv (i + 1)⟩ σ2 H2 := fun i x σ H hi hP => by
    obtain ⟨z, hz, rfl⟩ := row_at hi
    exact hs i z σ H hz hP
  rcases hp with hp | hp
  · exact .inl (ht _ ⟨p, rfl, ⟨_, SqL.of hp⟩, forL Pv h0 (fun i σ' H' _ h => SqL.of (hl i σ' H' h _ _ hp)) st (by rw [lenV]; exact hd)⟩)
  · exact .inr (ht _ ⟨p, rfl, ⟨_, SqT.of hp⟩, forT Pv h0 (fun i σ' H' _ h => SqT.of (hl i σ' H' h _ _ hp)) st (by rw [lenV]; exact hd)⟩)
/-- a comprehension whose test says no at each -/
theorem lcNoS {v : V} {r : Row} {t : TE} (h : SqI K H v r) (ht : ∀ R : VK, R v H → t σ H R) (hz : r.length ≤ 1000000) (hw : ∀ x, wipe ((wipe σ vs).set j (some x)) vs = wipe σ vs)
    (hs : ∀ (i : Nat) (z : Int) H1, r[i]? = some z → Same H H1 → ∀ R : Bool → Hp → Prop, (∀ H2, Same H1 H2 → R false H2) → tt ((wipe σ vs).set j (some (.int z))) H1 R) (hd : NewR H [] Q) : tLc (iEith (iList K t) (iTup K t)) (gName j) tt te vs σ H Q := by
  obtain ⟨p, rfl, hp⟩ := h
  refine v_lc (v_eith ?_)
  have st : ∀ (D : Addr), H D = none → ∀ (i : Nat) x H1, (r.map V.int)[i]? = some x → (Same H H1 ∧ H1 D = some (.lst [])) → gName j x (wipe σ vs) H1 fun σ2 H2 => wipe σ2 vs = wipe σ vs ∧ tt σ2 H2 fun b H3 =>
      if b = true then te σ2 H3 fun y H4 => ∃ acc, H4 D = some (.lst acc) ∧ acc.length < sizeLine ∧ (Same H (upd H4 D (.lst (acc ++ [y]))) ∧ (upd H4 D (.lst (acc ++ [y]))) D = some (.lst [])) else (Same H H3 ∧ H3 D = some (.lst [])) := fun D hD i x H1 hi ⟨s, e⟩ => by
    obtain ⟨z, hz, rfl⟩ := row_at hi
    refine ⟨hw _, ?_⟩
    refine hs i z H1 hz s _ fun H2 s2 => ?_
    exact iteF ⟨s.trans s2, s2 _ _ e⟩
  rcases hp with hp | hp
  · exact .inl (ht _ ⟨p, rfl, ⟨_, SqL.of hp⟩, fun D hD => lc_list (xs := r.map V.int) (fun _ H' => Same H H' ∧ H' D = some (.lst [])) ⟨same_new hD, upd_same⟩ (fun i H' _ h => SqL.of (h.1 _ _ hp)) (fun i x H1 hi hP => st D hD i x H1 hi hP) fun H' hP => hd D H' hP.1 hD hP.2⟩)
  · exact .inr (ht _ ⟨p, rfl, ⟨_, SqT.of hp⟩, fun D hD => lc_tup (xs := r.map V.int) (fun _ H' => Same H H' ∧ H' D = some (.lst [])) ⟨same_new hD, upd_same⟩ (fun i H' _ h => SqT.of (h.1 _ _ hp)) (fun i x H1 hi hP => st D hD i x H1 hi hP) fun H' hP => hd D H' hP.1 hD hP.2⟩)
end
section
variable {Z : Ctx} {vs : List V} {H : Hp} {Q : VK} {E : XK}
theorem SqI.mono {K : PySem.W.Frag} {H H' : Hp} {v : V} {r : Row} (h : SqI K H v r) (s : Same H H') : SqI K H' v r := by
  obtain ⟨p, e, h | h⟩ := h
  · exact ⟨p, e, .inl (s _ _ h)⟩
  · exact ⟨p, e, .inr (s _ _ h)⟩
theorem SqI.row {K : PySem.W.Frag} {H : Hp} {v : V} {r : Row} (h : rep H v r) : SqI K H v r := by
  obtain ⟨p, rfl, e⟩ := rep_row.mp h
  exact ⟨p, rfl, .inl e⟩
def sp_check_most (Z : Ctx) : Sp := fun vs H Q _ => ∃ s, ∃ n k : Int, vs = [.str s, .int n, .int k] ∧ n ≤ k ∧ Q .non H
abbrev r_check_most (Z : Ctx) : TS := (tIfS (tAnd (tB (tCB (rIsi Z.K) (tCons (tVar 1) (tCons (tC (.ty "int")) tNil)))) (tAnd (tNot (tB (tCB (rIsi Z.K) (tCons (tVar 1) (tCons (tC (.ty "bool")) tNil))))) (tTest (tOp rGtI (tVar 1) (tVar 2))))) tNever tNext)
theorem ln_check_most : sp_check_most Z vs H Q E → vs.length = 3 := by rintro ⟨_, _, _, rfl, _⟩; rfl
abbrev nm_check_most : List Str := ["what", "many", "most"]
theorem rd_check_most (h : sp_check_most Z vs H Q E) : r_check_most Z (ends Q) (L2.start nm_check_most vs) H := by
  obtain ⟨s, n, k, rfl, hk, q⟩ := h
  show r_check_most Z (ends Q) [some (.str s), some (.int n), some (.int k)] H
  unfold r_check_most ends
  walk_at "rd"
  refine w_ite (fun h => by omega) (fun h => ?_)
  walk_at "rd"
  exact q
def sp_check_numbers (Z : Ctx) : Sp := fun vs H Q _ => ∃ v, ∃ k : Int, ∃ r : Row, vs = [v, .int k] ∧ SqI Z.K H v r ∧ (∀ x ∈ r, -k ≤ x ∧ x ≤ k) ∧ Q .non H
abbrev r_check_numbers (Z : Ctx) : TS := (tFor (iEith (iList Z.K (tVar 0)) (iTup Z.K (tVar 0))) (gName 2) (tIfS (tAnd (tB (tCB (rIsi Z.K) (tCons (tVar 2) (tCons (tC (.ty "int")) tNil)))) (tAnd (tNot (tB (tCB (rIsi Z.K) (tCons (tVar 2) (tCons (tC (.ty "bool")) tNil))))) (tNot (tTest (tChain rLeI rLeI (tUn uNegI (tVar 1)) (tVar 2) (tVar 1)))))) tNever tNext))
theorem ln_check_numbers : sp_check_numbers Z vs H Q E → vs.length = 2 := by rintro ⟨_, _, _, rfl, _⟩; rfl
abbrev nm_check_numbers : List Str := ["numbers", "most", "number"]
theorem rd_check_numbers (h : sp_check_numbers Z vs H Q E) : r_check_numbers Z (ends Q) (L2.start nm_check_numbers vs) H := by
  obtain ⟨v, k, r, rfl, hr, hk, q⟩ := h
  show r_check_numbers Z (ends Q) [some v, some (.int k), none] H
  unfold r_check_numbers ends
  refine forS hr (fun R h => by walk_at "rd"; exact h) (fun i σ H' => ∃ w, σ = [some v, some (.int k), w] ∧ H' = H) ⟨_, rfl, rfl⟩ (fun i σ' H' ⟨_, _, e⟩ => e ▸ .refl _) ?_ ?_
  · rintro i z σ H' hi ⟨w, rfl, rfl⟩
    have := hk z (List.mem_of_getElem? hi)
    walk_at "rd"
    refine w_ite (fun h => ?_) (fun h => by omega)
    walk_at "rd"
    refine w_nite (fun h => ?_) (fun h => by omega)
    walk_at "rd"
    exact ⟨_, rfl, rfl⟩
  · rintro σ H' ⟨w, rfl, rfl⟩
    exact q
def sp_is_whole (Z : Ctx) : Sp := fun vs H Q _ => ∃ i : Int, vs = [.int i] ∧ Q (.bl true) H
abbrev r_is_whole (Z : Ctx) : TS := (tRet (tAndV (tCB (rIsi Z.K) (tCons (tVar 0) (tCons (tC (.ty "int")) tNil))) (tNotV (tCB (rIsi Z.K) (tCons (tVar 0) (tCons (tC (.ty "bool")) tNil))))))
theorem ln_is_whole : sp_is_whole Z vs H Q E → vs.length = 1 := by rintro ⟨_, rfl, _⟩; rfl
abbrev nm_is_whole : List Str := ["value"]
theorem rd_is_whole (h : sp_is_whole Z vs H Q E) : r_is_whole Z (ends Q) (L2.start nm_is_whole vs) H := by
  obtain ⟨i, rfl, q⟩ := h
  show r_is_whole Z (ends Q) [some (.int i)] H
  unfold r_is_whole ends
  walk_at "rd"
  exact q
def sp_whole_list (Z : Ctx) : Sp := fun vs H Q _ => ∃ v, ∃ n : Nat, ∃ r : Row, vs = [v, .int (n : Int)] ∧ SqI Z.K H v r ∧ r.length = n ∧ n ≤ 1000 ∧ ∀ H', Same H H' → Q (.bl true) H'
abbrev r_whole_list (Z : Ctx) : TS := (tSeq (tIfS (tOr (tNot (tB (tCB (rIsiT Z.K) (tCons (tVar 0) (tCons (tTup (tCons (tC (.ty "list")) (tCons (tC (.ty "tuple")) tNil))) tNil))))) (tTest (tOp rNe (tCB (rLenG Z.K) (tCons (tVar 0) tNil)) (tVar 1)))) (tRet (tC (.bl false))) tNext) (tRet (tOp (rEqD Z.K) (tLc (iEith (iList Z.K (tVar 0)) (iTup Z.K (tVar 0))) (gName 2) (tNot (tB (tCall (sp_is_whole Z) [] E0 (tCons (tVar 2) tNil)))) (tVar 2) [2]) (tLst tNil))))
theorem ln_whole_list : sp_whole_list Z vs H Q E → vs.length = 2 := by rintro ⟨_, _, _, rfl, _⟩; rfl
abbrev nm_whole_list : List Str := ["value", "many", "one"]
theorem rd_whole_list (h : sp_whole_list Z vs H Q E) : r_whole_list Z (ends Q) (L2.start nm_whole_list vs) H := by
  obtain ⟨v, n, r, rfl, hr, hl, hn, q⟩ := h
  have hr' := hr
  obtain ⟨p, rfl, hp⟩ := hr'
  show r_whole_list Z (ends Q) [some (.ref p), some (.int n), none] H
  unfold r_whole_list ends
  walk_at "rd"
  refine ⟨small _ (by simp), fun t ht => ?_⟩
  have st := same_new (o := .tup [V.ty "list", .ty "tuple"]) ht
  have et : (upd H t (.tup [V.ty "list", .ty "tuple"])) t = some (.tup [V.ty "list", .ty "tuple"]) := upd_same
  have hr1 := hr.mono st
  generalize upd H t (.tup [V.ty "list", .ty "tuple"]) = H1 at st et hr1
  have fin : tLc (iEith (iList Z.K (tVar 0)) (iTup Z.K (tVar 0))) (gName 2) (tNot (tB (tCall (sp_is_whole Z) [] E0 (tCons (tVar 2) tNil)))) (tVar 2) [2] [some (.ref p), some (.int n), none] H1 fun x H2 => tLst tNil [some (.ref p), some (.int n), none] H2 fun y H3 => rEqD Z.K x y H3 Q := by
    refine lcNoS hr1 (fun R h => by walk_at "rd"; exact h) (by omega) (fun _ => rfl) (fun i z H2 hi s2 R k => ?_) ?_
    · show tNot _ [some (.ref p), some (.int n), some (.int z)] H2 R
      walk_at "rd"
      refine ⟨z, rfl, ?_⟩
      walk_at "rd"
      exact k _ (.refl _)
    · intro l H2 s2 n2 e2
      walk_at "rd"
      refine ⟨small _ (by simp), fun l3 n3 => ?_⟩
      refine w_eqD (α := Row) (a := []) (b := []) (rep_row_of (same_new n3 _ _ e2)) (rep_row_of upd_same) ?_
      rw [decide_eq_true rfl]
      exact q _ ((st.trans s2).trans (same_new n3))
  walk_at "rd"
  obtain ⟨_, e, hp1⟩ := hr1
  cases e
  rcases hp1 with hp1 | hp1
  · refine w_isiLT hp1 et ?_
    walk_at "rd"
    rw [lenV, hl]
    walk_at "rd"
    refine w_ite (fun h => by omega) (fun h => ?_)
    walk_at "rd"
    exact fin
  · refine w_isiTT hp1 et ?_
    walk_at "rd"
    refine w_lenT hp1 ?_
    rw [lenV, hl]
    walk_at "rd"
    refine w_ite (fun h => by omega) (fun h => ?_)
    walk_at "rd"
    exact fin
end
end G
end
section
set_option Elab.async false
set_option linter.all false
set_option maxRecDepth 100000
namespace G
open PySem L2 PyProof.Rows
local macro_rules | `(tactic| walk_at "rd") => `(tactic| repeat (first
  | (with_reducible refine v_seq ?_)
  | (with_reducible refine v_asg ?_)
  | (with_reducible refine w_cons ?_)
  | (with_reducible refine w_nil ?_)
  | (with_reducible refine w_op ?_)
  | (with_reducible refine w_c ?_)
  | (with_reducible refine w_I0 ?_)
  | (with_reducible refine w_cb ?_)
  | (with_reducible refine w_call ?_)
  | (with_reducible refine v_ret ?_)
  | (with_reducible refine v_next ?_)
  | (with_reducible refine w_ixR (by assumption) (by assumption) ?_)
  | (with_reducible refine w_ix (by assumption) (by assumption) ?_)
  | (with_reducible refine w_test ?_)
  | (with_reducible refine w_tB ?_)
  | (with_reducible refine w_and ?_)
  | (with_reducible refine w_or ?_)
  | (with_reducible refine w_not ?_)
  | (with_reducible refine w_ifE ?_)
  | (with_reducible refine v_ifS ?_)
  | (with_reducible refine w_tt ?_)
  | (with_reducible refine w_ff ?_)
  | (with_reducible refine w_eqI ?_)
  | (with_reducible refine w_neI ?_)
  | (with_reducible refine w_U ?_)
  | (with_reducible refine w_un ?_)
  | (with_reducible refine w_len (by assumption) ?_)
  | (with_reducible refine w_abs ?_)
  | (with_reducible refine w_int ?_)
  | (with_reducible refine w_isN0 ?_)
  | (with_reducible refine w_isN1 (by assumption) ?_)
  | (with_reducible refine w_isN1 ne_in ?_)
  | (with_reducible refine w_isN1 ne_rn ?_)
  | (with_reducible refine w_notN0 ?_)
  | (with_reducible refine w_notN1 ne_in ?_)
  | (with_reducible refine w_notN1 ne_rn ?_)
  | (with_reducible refine v_lst ?_)
  | (with_reducible refine v_tup ?_)
  | (with_reducible refine w_notN1 (by assumption) ?_)
  | (with_reducible refine v_drop ?_)
  | (with_reducible refine w_bm ?_)
  | (with_reducible refine v_for ?_)
  | (with_reducible refine v_rng1 ?_)
  | (with_reducible refine v_rng2 ?_)
  | (with_reducible refine v_list ?_)
  | (with_reducible refine w_sub ?_)
  | (with_reducible refine v_ip ?_)
  | (with_reducible refine v_augS ?_)
  | (with_reducible refine v_retN ?_)
  | (with_reducible refine w_yes ?_)
  | (with_reducible refine tv_0 ?_)
  | (with_reducible refine nv_0 ?_)
  | (with_reducible refine av_0 ?_)
  | (with_reducible refine tv_1 ?_)
  | (with_reducible refine nv_1 ?_)
  | (with_reducible refine av_1 ?_)
  | (with_reducible refine tv_2 ?_)
  | (with_reducible refine nv_2 ?_)
  | (with_reducible refine av_2 ?_)
  | (with_reducible refine tv_3 ?_)
  | (with_reducible refine nv_3 ?_)
  | (with_reducible refine av_3 ?_)
  | (with_reducible refine tv_4 ?_)
  | (with_reducible refine nv_4 ?_)
  | (with_reducible refine av_4 ?_)
  | (with_reducible refine tv_5 ?_)
  | (with_reducible refine nv_5 ?_)
  | (with_reducible refine av_5 ?_)
  | (with_reducible refine tv_6 ?_)
  | (with_reducible refine nv_6 ?_)
  | (with_reducible refine av_6 ?_)
  | (with_reducible refine tv_7 ?_)
  | (with_reducible refine nv_7 ?_)
  | (with_reducible refine av_7 ?_)
  | (with_reducible refine tv_8 ?_)
  | (with_reducible refine nv_8 ?_)
  | (with_reducible refine av_8 ?_)
  | (with_reducible refine tv_9 ?_)
  | (with_reducible refine nv_9 ?_)
  | (with_reducible refine av_9 ?_)
  | (with_reducible refine tv_10 ?_)
  | (with_reducible refine nv_10 ?_)
  | (with_reducible refine av_10 ?_)
  | (with_reducible refine tv_11 ?_)
  | (with_reducible refine nv_11 ?_)
  | (with_reducible refine av_11 ?_)
  | (with_reducible refine tv_12 ?_)
  | (with_reducible refine nv_12 ?_)
  | (with_reducible refine av_12 ?_)
  | (with_reducible refine tv_13 ?_)
  | (with_reducible refine nv_13 ?_)
  | (with_reducible refine av_13 ?_)
  | (with_reducible refine tv_14 ?_)
  | (with_reducible refine nv_14 ?_)
  | (with_reducible refine av_14 ?_)
  | (with_reducible refine tv_15 ?_)
  | (with_reducible refine nv_15 ?_)
  | (with_reducible refine av_15 ?_)
  | (with_reducible refine tv_16 ?_)
  | (with_reducible refine nv_16 ?_)
  | (with_reducible refine av_16 ?_)
  | (with_reducible refine tv_17 ?_)
  | (with_reducible refine nv_17 ?_)
  | (with_reducible refine av_17 ?_)
  | (with_reducible refine tv_18 ?_)
  | (with_reducible refine nv_18 ?_)
  | (with_reducible refine av_18 ?_)
  | (with_reducible refine tv_19 ?_)
  | (with_reducible refine nv_19 ?_)
  | (with_reducible refine av_19 ?_)
  | (with_reducible refine tv_20 ?_)
  | (with_reducible refine nv_20 ?_)
  | (with_reducible refine av_20 ?_)
  | (with_reducible refine tv_21 ?_)
  | (with_reducible refine nv_21 ?_)
  | (with_reducible refine av_21 ?_)
  | (with_reducible refine tv_22 ?_)
  | (with_reducible refine nv_22 ?_)
  | (with_reducible refine av_22 ?_)
  | (with_reducible refine tv_23 ?_)
  | (with_reducible refine nv_23 ?_)
  | (with_reducible refine av_23 ?_)
  | (with_reducible refine tv_24 ?_)
  | (with_reducible refine nv_24 ?_)
  | (with_reducible refine av_24 ?_)
  | (with_reducible refine tv_25 ?_)
  | (with_reducible refine nv_25 ?_)
  | (with_reducible refine av_25 ?_)
  | (with_reducible refine ⟨_, rfl, ⟨_, SqL.of (by assumption)⟩, ?_⟩)
  | (with_reducible refine ⟨_, rfl, (by omega), (by omega), ?_⟩)
  | (with_reducible refine ⟨w_tyL (by assumption), ?_⟩)
  | (with_reducible refine w_isiII ?_)
  | (with_reducible refine w_isiIB ?_)
  | (with_reducible refine w_isiBB ?_)
  | (with_reducible refine w_isiBI ?_)
  | (with_reducible refine w_isiNL ?_)
  | (with_reducible refine w_isiLL (by assumption) ?_)
  | (with_reducible refine v_sl ?_)
  | (with_reducible refine w_nff ?_)
  | (with_reducible refine w_ntt ?_)
  | (with_reducible refine v_chain ?_)
  | (with_reducible refine v_andV ?_)
  | (with_reducible refine v_orV ?_)
  | (with_reducible refine v_chain3 ?_)
  | (with_reducible refine w_min2 ?_)
  | (with_reducible refine v_lstRg ?_)
  | (with_reducible refine w_in (by assumption) ?_)
  | (with_reducible refine w_nin (by assumption) ?_)
  | (with_reducible refine v_notV ?_)
  | (with_reducible refine v_noP ?_)
  | (with_reducible refine v_part ?_)
  | (with_reducible refine v_fld ?_)
  | (with_reducible refine v_sfld ?_)
  | (with_reducible refine ⟨_, (rfl : V.bl _ = V.bl _), ?_⟩)
  | (with_reducible refine ⟨_, (rfl : V.ref _ = V.ref _), ?_⟩)
  | (with_reducible refine ⟨_, (rfl : [V.int _] = [V.int _]), ?_⟩)
  | (with_reducible refine ⟨_, (rfl : V.int _ = V.int _), ?_⟩)
  | (with_reducible refine ⟨⟨_, SqL.of (by assumption)⟩, ?_⟩)
  | (with_reducible refine ⟨(by (first | omega | (rw [lenV]; omega)) : -(2 ^ 62) ≤ _), (by first | omega | (rw [lenV]; omega)), ?_⟩)
  | (with_reducible refine v_meth ?_)
  | (with_reducible refine v_make ?_)
  | (with_reducible refine w_neBB ?_)
  | (with_reducible refine w_eqBB ?_)
  | (with_reducible refine w_isiRI (by assumption) ?_)
  ))
/-! ### lines, doors, looks -/
structure Ln where
  sh : Row
  f : Int
  l : Int
structure Lk where
  t : Int
  ws : Row
def repLn (H : Hp) (v : V) (x : Ln) : Prop := ∃ p q, v = .ref p ∧ H p = some (.tup [.ref q, .int x.f, .int x.l]) ∧ H q = some (.lst (x.sh.map V.int))
instance : Rep Ln := ⟨repLn, fun s ⟨p, q, e, h, r⟩ => ⟨p, q, e, s _ _ h, s _ _ r⟩⟩
def repLk (H : Hp) (v : V) (x : Lk) : Prop := ∃ p q, v = .ref p ∧ H p = some (.tup [.int x.t, .ref q]) ∧ H q = some (.lst (x.ws.map V.int))
instance : Rep Lk := ⟨repLk, fun s ⟨p, q, e, h, r⟩ => ⟨p, q, e, s _ _ h, s _ _ r⟩⟩
def ShOk (w : Nat) (r : Row) : Prop := r.length = w ∧ (∃ i, at0 r i ≠ 0) ∧ ∀ x ∈ r, -1000000 ≤ x ∧ x ≤ 1000000
def LnOk (w m : Nat) (x : Ln) : Prop := ShOk w x.sh ∧ 1 ≤ x.f ∧ x.f ≤ x.l ∧ x.l ≤ (m : Int)
def LkOk (w m : Nat) (x : Lk) : Prop := ShOk w x.ws ∧ 1 ≤ x.t ∧ x.t ≤ (m : Int)
structure PlanOk (w m : Nat) (st : Row) (L D : List Ln) (K : List Lk) : Prop where
  w1 : 1 ≤ w
  w9 : w ≤ 9
  m1 : 1 ≤ m
  m40 : m ≤ 40
  stl : st.length = w
  stb : ∀ x ∈ st, -1000000000000000000000000000000 ≤ x ∧ x ≤ 1000000000000000000000000000000
  lL : L.length ≤ 24
  lD : D.length ≤ 24
  lK : K.length ≤ 60
  okL : ∀ x ∈ L, LnOk w m x
  okD : ∀ x ∈ D, LnOk w m x
  okK : ∀ x ∈ K, LkOk w m x
section
variable {Z : Ctx} {vs : List V} {H : Hp} {Q : VK} {E : XK}
theorem l_at {α : Type} [Rep α] {xs : List V} {m : List α} {i : Nat} {x : V} (h : All2 (rep H) xs m) (e : xs[i]? = some x) : ∃ y, m[i]? = some y ∧ y ∈ m ∧ rep H x y := by
  obtain ⟨y, h1, h2⟩ := h.get' e
  exact ⟨y, h1, List.mem_of_getElem? h1, h2⟩
theorem l_to {α : Type} [Rep α] {xs : List V} {m : List α} {i : Nat} (h : All2 (rep H) xs m) (hi : i < xs.length) : ∃ x y, xs[i]? = some x ∧ m[i]? = some y ∧ y ∈ m ∧ rep H x y := by
  obtain ⟨y, h1, h2, h3⟩ := l_at h (List.getElem?_eq_getElem hi)
  exact ⟨_, y, List.getElem?_eq_getElem hi, h1, h2, h3⟩
def sp_check_counts (Z : Ctx) : Sp := fun vs H Q _ => ∃ b m : Int, ∃ u v x, ∃ L D : List Ln, ∃ K : List Lk, vs = [.int b, .int m, u, v, x] ∧ b ≤ 9 ∧ m ≤ 40 ∧ rep H u L ∧ rep H v D ∧ rep H x K ∧ L.length ≤ 24 ∧ D.length ≤ 24 ∧ K.length ≤ 60 ∧ Q .non H
abbrev r_check_counts (Z : Ctx) : TS := (tSeq (tDrop (tCall (sp_check_most Z) [] E0 (tCons (tC (.str "books")) (tCons (tVar 0) (tCons (tC (.int 9)) tNil))))) (tSeq (tDrop (tCall (sp_check_most Z) [] E0 (tCons (tC (.str "moments")) (tCons (tVar 1) (tCons (tC (.int 40)) tNil))))) (tSeq (tDrop (tCall (sp_check_most Z) [] E0 (tCons (tC (.str "lines")) (tCons (tCB (rLenG Z.K) (tCons (tVar 2) tNil)) (tCons (tC (.int 24)) tNil))))) (tSeq (tDrop (tCall (sp_check_most Z) [] E0 (tCons (tC (.str "doors")) (tCons (tCB (rLenG Z.K) (tCons (tVar 3) tNil)) (tCons (tC (.int 24)) tNil))))) (tDrop (tCall (sp_check_most Z) [] E0 (tCons (tC (.str "looks")) (tCons (tCB (rLenG Z.K) (tCons (tVar 4) tNil)) (tCons (tC (.int 60)) tNil)))))))))
theorem ln_check_counts : sp_check_counts Z vs H Q E → vs.length = 5 := by rintro ⟨_, _, _, _, _, _, _, _, rfl, _⟩; rfl
abbrev nm_check_counts : List Str := ["books", "moments", "lines", "doors", "looks"]
theorem rd_check_counts (h : sp_check_counts Z vs H Q E) : r_check_counts Z (ends Q) (L2.start nm_check_counts vs) H := by
  obtain ⟨b, m, u, v, x, L, D, K, rfl, hb, hm, ⟨l1, x1, rfl, h1, a1⟩, ⟨l2, x2, rfl, h2, a2⟩, ⟨l3, x3, rfl, h3, a3⟩, e1, e2, e3, q⟩ := h
  have f1 := a1.len
  have f2 := a2.len
  have f3 := a3.len
  show r_check_counts Z (ends Q) [some (.int b), some (.int m), some (.ref l1), some (.ref l2), some (.ref l3)] H
  unfold r_check_counts ends
  walk_at "rd"
  refine ⟨_, _, _, rfl, hb, ?_⟩
  walk_at "rd"
  refine ⟨_, _, _, rfl, hm, ?_⟩
  walk_at "rd"
  refine ⟨_, _, _, rfl, by omega, ?_⟩
  walk_at "rd"
  refine ⟨_, _, _, rfl, by omega, ?_⟩
  walk_at "rd"
  exact ⟨_, _, _, rfl, by omega, q⟩
def sp_check_sizes (Z : Ctx) : Sp := fun vs H Q _ => ∃ b m : Int, vs = [.int b, .int m] ∧ 1 ≤ b ∧ 1 ≤ m ∧ Q .non H
abbrev r_check_sizes (Z : Ctx) : TS := (tSeq (tIfS (tOr (tNot (tB (tCall (sp_is_whole Z) [] E0 (tCons (tVar 0) tNil)))) (tTest (tOp rLtI (tVar 0) (tC (.int 1))))) tNever tNext) (tIfS (tOr (tNot (tB (tCall (sp_is_whole Z) [] E0 (tCons (tVar 1) tNil)))) (tTest (tOp rLtI (tVar 1) (tC (.int 1))))) tNever tNext))
theorem ln_check_sizes : sp_check_sizes Z vs H Q E → vs.length = 2 := by rintro ⟨_, _, rfl, _⟩; rfl
abbrev nm_check_sizes : List Str := ["books", "moments"]
theorem rd_check_sizes (h : sp_check_sizes Z vs H Q E) : r_check_sizes Z (ends Q) (L2.start nm_check_sizes vs) H := by
  obtain ⟨b, m, rfl, hb, hm, q⟩ := h
  show r_check_sizes Z (ends Q) [some (.int b), some (.int m)] H
  unfold r_check_sizes ends
  walk_at "rd"
  refine ⟨_, rfl, ?_⟩
  walk_at "rd"
  refine w_ite (fun h => by omega) (fun h => ?_)
  walk_at "rd"
  refine ⟨_, rfl, ?_⟩
  walk_at "rd"
  refine w_ite (fun h => by omega) (fun h => ?_)
  walk_at "rd"
  exact q
def sp_shape_wrong (Z : Ctx) : Sp := fun vs H Q _ => ∃ v, ∃ w : Nat, ∃ r : Row, vs = [v, .int (w : Int)] ∧ rep H v r ∧ r.length = w ∧ w ≤ 1000 ∧ (∃ i, at0 r i ≠ 0) ∧ ∀ H', Same H H' → Q (.bl false) H'
abbrev r_shape_wrong (Z : Ctx) : TS := (tRet (tOrV (tNotV (tCall (sp_whole_list Z) [] E0 (tCons (tVar 0) (tCons (tVar 1) tNil)))) (tOp (rEqD Z.K) (tLc (iList Z.K (tVar 0)) (gName 2) (tTest (tOp rNe (tVar 2) (tC (.int 0)))) (tVar 2) [2]) (tLst tNil))))
theorem ln_shape_wrong : sp_shape_wrong Z vs H Q E → vs.length = 2 := by rintro ⟨_, _, _, rfl, _⟩; rfl
abbrev nm_shape_wrong : List Str := ["shape", "books", "one"]
theorem rd_shape_wrong (h : sp_shape_wrong Z vs H Q E) : r_shape_wrong Z (ends Q) (L2.start nm_shape_wrong vs) H := by
  obtain ⟨v, w, r, rfl, hr, hl, hw, ⟨i0, hi0⟩, q⟩ := h
  have hr' := hr
  obtain ⟨p, rfl, hp⟩ := rep_row.mp hr'
  show r_shape_wrong Z (ends Q) [some (.ref p), some (.int (w : Int)), none] H
  unfold r_shape_wrong ends
  walk_at "rd"
  refine ⟨.ref p, w, r, rfl, .row hr, hl, hw, fun H1 s1 => ?_⟩
  have hp1 := s1 _ _ hp
  walk_at "rd"
  refine lcLF (β := Int) (xs := r.map V.int) (fun R h => by walk_at "rd"; exact h) (dom _) (fun i => decide (at0 r i ≠ 0)) (fun i => at0 r i) (SqL.of hp1) (by rw [lenV]; omega) (fun _ h => h) (fun _ => rfl) (fun i x H2 hi s R k => ?_) (fun i x H2 M1 hi hf s _ _ R k => ?_) ?_
  · obtain ⟨z, hz, rfl⟩ := row_at hi
    obtain rfl := at0_some hz
    show tTest _ [some (.ref p), some (.int (w : Int)), some (.int (at0 r i))] H2 R
    walk_at "rd"
    exact k _ (.refl _)
  · obtain ⟨z, hz, rfl⟩ := row_at hi
    obtain rfl := at0_some hz
    show tVar 2 [some (.ref p), some (.int (w : Int)), some (.int (at0 r i))] H2 R
    walk_at "rd"
    exact k _ _ (.refl _) rfl
  · intro l2 x2 H2 s2 n2 e2 a2
    rw [lenV] at a2
    have hne : ¬ ((List.range r.length).filter (fun i => decide (at0 r i ≠ 0))).map (fun i => at0 r i) = [] := fun z => by
      rw [List.map_eq_nil_iff, List.filter_eq_nil_iff] at z
      by_cases h : i0 < r.length
      · exact z i0 (List.mem_range.mpr h) (decide_eq_true hi0)
      · exact hi0 (at0_out (by omega))
    walk_at "rd"
    refine ⟨small _ (by simp), fun l3 n3 => ?_⟩
    refine w_eqD (α := Row) (b := []) ⟨l2, x2, rfl, same_new n3 _ _ e2, all2_mono (off_same.trans (same_new n3)) a2⟩ (rep_row_of upd_same) ?_
    rw [decide_eq_false hne]
    exact q _ ((s1.trans s2).trans (same_new n3))
def sp_span_wrong (Z : Ctx) : Sp := fun vs H Q _ => ∃ v, ∃ w m : Nat, ∃ x : Ln, vs = [v, .int (w : Int), .int (m : Int)] ∧ rep H v x ∧ LnOk w m x ∧ w ≤ 1000 ∧ ∀ H', Same H H' → Q (.bl false) H'
abbrev r_span_wrong (Z : Ctx) : TS := (tSeq (tAsg (tVar 0) (gTup Z.K 3 (gCons (gName 3) (gCons (gName 4) (gCons (gName 5) gNil))))) (tSeq (tIfS (tOr (tB (tCall (sp_shape_wrong Z) [] E0 (tCons (tVar 3) (tCons (tVar 1) tNil)))) (tOr (tNot (tB (tCall (sp_is_whole Z) [] E0 (tCons (tVar 4) tNil)))) (tNot (tB (tCall (sp_is_whole Z) [] E0 (tCons (tVar 5) tNil)))))) (tRet (tC (.bl true))) tNext) (tRet (tNotV (tChain3 rLeI rLeI rLeI (tC (.int 1)) (tVar 4) (tVar 5) (tVar 2))))))
theorem ln_span_wrong : sp_span_wrong Z vs H Q E → vs.length = 3 := by rintro ⟨_, _, _, _, rfl, _⟩; rfl
abbrev nm_span_wrong : List Str := ["row", "books", "moments", "shape", "first", "last"]
theorem rd_span_wrong (h : sp_span_wrong Z vs H Q E) : r_span_wrong Z (ends Q) (L2.start nm_span_wrong vs) H := by
  obtain ⟨v, w, m, x, rfl, ⟨p, s, rfl, hp, hs⟩, ⟨⟨ok1, ok2, _⟩, ok3, ok4, ok5⟩, hw, q⟩ := h
  show r_span_wrong Z (ends Q) [some (.ref p), some (.int (w : Int)), some (.int (m : Int)), none, none, none] H
  unfold r_span_wrong ends
  walk_at "rd"
  refine w_gtup3 hp ?_
  show tSeq _ _ _ [some (.ref p), some (.int (w : Int)), some (.int (m : Int)), some (.ref s), some (.int x.f), some (.int x.l)] H
  walk_at "rd"
  refine ⟨.ref s, w, x.sh, rfl, rep_row_of hs, ok1, hw, ok2, fun H1 s1 => ?_⟩
  walk_at "rd"
  refine ⟨_, rfl, ?_⟩
  walk_at "rd"
  refine ⟨_, rfl, ?_⟩
  walk_at "rd"
  refine w_ite (fun _ => ?_) (fun h => absurd ok3 h)
  walk_at "rd"
  refine w_ite (fun _ => ?_) (fun h => absurd ok4 h)
  walk_at "rd"
  rw [decide_eq_true ok5]
  walk_at "rd"
  exact q _ s1
def sp_look_wrong (Z : Ctx) : Sp := fun vs H Q _ => ∃ v, ∃ w m : Nat, ∃ x : Lk, vs = [v, .int (w : Int), .int (m : Int)] ∧ rep H v x ∧ LkOk w m x ∧ w ≤ 1000 ∧ ∀ H', Same H H' → Q (.bl false) H'
abbrev r_look_wrong (Z : Ctx) : TS := (tSeq (tAsg (tVar 0) (gTup Z.K 2 (gCons (gName 3) (gCons (gName 4) gNil)))) (tRet (tOrV (tNotV (tCall (sp_is_whole Z) [] E0 (tCons (tVar 3) tNil))) (tOrV (tNotV (tChain rLeI rLeI (tC (.int 1)) (tVar 3) (tVar 2))) (tCall (sp_shape_wrong Z) [] E0 (tCons (tVar 4) (tCons (tVar 1) tNil)))))))
theorem ln_look_wrong : sp_look_wrong Z vs H Q E → vs.length = 3 := by rintro ⟨_, _, _, _, rfl, _⟩; rfl
abbrev nm_look_wrong : List Str := ["row", "books", "moments", "moment", "weights"]
theorem rd_look_wrong (h : sp_look_wrong Z vs H Q E) : r_look_wrong Z (ends Q) (L2.start nm_look_wrong vs) H := by
  obtain ⟨v, w, m, x, rfl, ⟨p, s, rfl, hp, hs⟩, ⟨⟨ok1, ok2, _⟩, ok3, ok4⟩, hw, q⟩ := h
  show r_look_wrong Z (ends Q) [some (.ref p), some (.int (w : Int)), some (.int (m : Int)), none, none] H
  unfold r_look_wrong ends
  walk_at "rd"
  refine w_gtup2 hp ?_
  show tRet _ _ [some (.ref p), some (.int (w : Int)), some (.int (m : Int)), some (.int x.t), some (.ref s)] H
  walk_at "rd"
  refine ⟨_, rfl, ?_⟩
  walk_at "rd"
  refine w_ite (fun _ => ?_) (fun h => absurd ok3 h)
  walk_at "rd"
  rw [decide_eq_true ok4]
  walk_at "rd"
  exact ⟨.ref s, w, x.ws, rfl, rep_row_of hs, ok1, hw, ok2, fun H1 s1 => q _ s1⟩
def sp_check_rows (Z : Ctx) : Sp := fun vs H Q _ => ∃ s u v x, ∃ w m : Nat, ∃ st : Row, ∃ L D : List Ln, ∃ K : List Lk, vs = [.int (w : Int), .int (m : Int), s, u, v, x] ∧ rep H s st ∧ rep H u L ∧ rep H v D ∧ rep H x K ∧ PlanOk w m st L D K ∧ ∀ H', Same H H' → Q .non H'
abbrev r_check_rows (Z : Ctx) : TS := (tSeq (tDrop (tCall (sp_check_sizes Z) [] E0 (tCons (tVar 0) (tCons (tVar 1) tNil)))) (tSeq (tIfS (tNot (tB (tCall (sp_whole_list Z) [] E0 (tCons (tVar 2) (tCons (tVar 0) tNil))))) tNever tNext) (tSeq (tFor (iRng1 (tCons (tCB (rLenG Z.K) (tCons (tVar 3) tNil)) tNil)) (gName 6) (tIfS (tB (tCall (sp_span_wrong Z) [] E0 (tCons (tOp (rIxG Z.K) (tVar 3) (tVar 6)) (tCons (tVar 0) (tCons (tVar 1) tNil))))) tNever tNext)) (tSeq (tFor (iRng1 (tCons (tCB (rLenG Z.K) (tCons (tVar 4) tNil)) tNil)) (gName 6) (tIfS (tB (tCall (sp_span_wrong Z) [] E0 (tCons (tOp (rIxG Z.K) (tVar 4) (tVar 6)) (tCons (tVar 0) (tCons (tVar 1) tNil))))) tNever tNext)) (tFor (iRng1 (tCons (tCB (rLenG Z.K) (tCons (tVar 5) tNil)) tNil)) (gName 6) (tIfS (tB (tCall (sp_look_wrong Z) [] E0 (tCons (tOp (rIxG Z.K) (tVar 5) (tVar 6)) (tCons (tVar 0) (tCons (tVar 1) tNil))))) tNever tNext))))))
theorem ln_check_rows : sp_check_rows Z vs H Q E → vs.length = 6 := by rintro ⟨_, _, _, _, _, _, _, _, _, _, rfl, _⟩; rfl
abbrev nm_check_rows : List Str := ["books", "moments", "start", "lines", "doors", "looks", "number"]
theorem rd_check_rows (h : sp_check_rows Z vs H Q E) : r_check_rows Z (ends Q) (L2.start nm_check_rows vs) H := by
  obtain ⟨s, u, v, x, w, m, st, L, D, K, rfl, hs, ⟨l1, x1, rfl, h1, a1⟩, ⟨l2, x2, rfl, h2, a2⟩, ⟨l3, x3, rfl, h3, a3⟩, ok, q⟩ := h
  have f1 := a1.len
  have f2 := a2.len
  have f3 := a3.len
  have := ok.w1
  have := ok.w9
  have := ok.m1
  have := ok.lL
  have := ok.lD
  have := ok.lK
  show r_check_rows Z (ends Q) [some (.int (w : Int)), some (.int (m : Int)), some s, some (.ref l1), some (.ref l2), some (.ref l3), none] H
  unfold r_check_rows ends
  walk_at "rd"
  refine ⟨_, _, rfl, by omega, by omega, ?_⟩
  walk_at "rd"
  refine ⟨s, w, st, rfl, .row hs, ok.stl, by omega, fun H1 s1 => ?_⟩
  have h1 := s1 _ _ h1
  walk_at "rd"
  refine forR (n := x1.length) (fun i σ H' => ∃ e, σ = [some (.int (w : Int)), some (.int (m : Int)), some s, some (.ref l1), some (.ref l2), some (.ref l3), e] ∧ Same H1 H') ⟨_, rfl, .refl _⟩ ?_ ?_
  · rintro i σ H' hi ⟨e, rfl, s2⟩
    obtain ⟨y, z, g1, g2, g3, g4⟩ := l_to a1 hi
    have h1 := s2 _ _ h1
    show tIfS _ _ _ _ [some (.int (w : Int)), some (.int (m : Int)), some s, some (.ref l1), some (.ref l2), some (.ref l3), some (.int (i : Int))] H'
    walk_at "rd"
    refine ⟨y, w, m, z, rfl, Rep.mono (s1.trans s2) g4, ok.okL z g3, by omega, fun H2 s3 => ?_⟩
    walk_at "rd"
    exact ⟨_, rfl, s2.trans s3⟩
  rintro σ H' ⟨e, rfl, s2⟩
  have h2 := s2 _ _ (s1 _ _ h2)
  walk_at "rd"
  refine forR (n := x2.length) (fun i σ H'' => ∃ e, σ = [some (.int (w : Int)), some (.int (m : Int)), some s, some (.ref l1), some (.ref l2), some (.ref l3), e] ∧ Same H' H'') ⟨_, rfl, .refl _⟩ ?_ ?_
  · rintro i σ H'' hi ⟨e, rfl, s3⟩
    obtain ⟨y, z, g1, g2, g3, g4⟩ := l_to a2 hi
    have h2 := s3 _ _ h2
    show tIfS _ _ _ _ [some (.int (w : Int)), some (.int (m : Int)), some s, some (.ref l1), some (.ref l2), some (.ref l3), some (.int (i : Int))] H''
    walk_at "rd"
    refine ⟨y, w, m, z, rfl, Rep.mono ((s1.trans s2).trans s3) g4, ok.okD z g3, by omega, fun H2 s4 => ?_⟩
    walk_at "rd"
    exact ⟨_, rfl, s3.trans s4⟩
  rintro σ H'' ⟨e, rfl, s3⟩
  have h3 := s3 _ _ (s2 _ _ (s1 _ _ h3))
  walk_at "rd"
  refine forR (n := x3.length) (fun i σ Hx => ∃ e, σ = [some (.int (w : Int)), some (.int (m : Int)), some s, some (.ref l1), some (.ref l2), some (.ref l3), e] ∧ Same H'' Hx) ⟨_, rfl, .refl _⟩ ?_ ?_
  · rintro i σ Hx hi ⟨e, rfl, s4⟩
    obtain ⟨y, z, g1, g2, g3, g4⟩ := l_to a3 hi
    have h3 := s4 _ _ h3
    show tIfS _ _ _ _ [some (.int (w : Int)), some (.int (m : Int)), some s, some (.ref l1), some (.ref l2), some (.ref l3), some (.int (i : Int))] Hx
    walk_at "rd"
    refine ⟨y, w, m, z, rfl, Rep.mono (((s1.trans s2).trans s3).trans s4) g4, ok.okK z g3, by omega, fun H2 s5 => ?_⟩
    walk_at "rd"
    exact ⟨_, rfl, s4.trans s5⟩
  · rintro σ Hx ⟨e, rfl, s4⟩
    exact q _ (((s1.trans s2).trans s3).trans s4)
def sp_copied_spans (Z : Ctx) : Sp := fun vs H Q _ => ∃ v, ∃ L : List Ln, vs = [v] ∧ rep H v L ∧ L.length ≤ 1000 ∧ NewL (dom H) H L Q
abbrev r_copied_spans (Z : Ctx) : TS := (tRet (tLc (iList Z.K (tVar 0)) (gTup Z.K 3 (gCons (gName 1) (gCons (gName 2) (gCons (gName 3) gNil)))) tYes (tTup (tCons (tCB (rLstG Z.K) (tCons (tVar 1) tNil)) (tCons (tVar 2) (tCons (tVar 3) tNil)))) [1, 2, 3]))
theorem ln_copied_spans : sp_copied_spans Z vs H Q E → vs.length = 1 := by rintro ⟨_, _, rfl, _⟩; rfl
abbrev nm_copied_spans : List Str := ["rows", "shape", "first", "last"]
theorem rd_copied_spans (h : sp_copied_spans Z vs H Q E) : r_copied_spans Z (ends Q) (L2.start nm_copied_spans vs) H := by
  obtain ⟨v, L, rfl, ⟨l, xs, rfl, hl, ha⟩, hz, k⟩ := h
  have hlen := ha.len
  show r_copied_spans Z (ends Q) [some (.ref l), none, none, none] H
  unfold r_copied_spans ends
  walk_at "rd"
  refine lcGT (β := Ln) (xs := xs) (fun R h => by walk_at "rd"; exact h) (dom H) (fun i => L.getD i ⟨[], 0, 0⟩) (SqL.of hl) (by omega) (fun _ h => h) (fun i x H1 M1 hi s so dm R k1 => ?_) ?_
  · obtain ⟨y, h1, h2, ⟨p, q, rfl, h3, h4⟩⟩ := l_at ha hi
    have h3 := s _ _ h3
    have h4 := s _ _ h4
    refine w_gtup3 h3 ⟨rfl, ?_⟩
    show tTup _ [some (.ref l), some (.ref q), some (.int y.f), some (.int y.l)] H1 R
    walk_at "rd"
    refine w_lst h4 fun q2 n2 => ?_
    have s2 := same_new (o := .lst (y.sh.map V.int)) n2
    have e2 : (upd H1 q2 (.lst (y.sh.map V.int))) q2 = some (.lst (y.sh.map V.int)) := upd_same
    generalize upd H1 q2 (.lst (y.sh.map V.int)) = H2 at s2 e2
    walk_at "rd"
    refine ⟨small _ (by simp), fun q3 n3 => ?_⟩
    have s3 := same_new (o := .tup [V.ref q2, .int y.f, .int y.l]) n3
    refine k1 _ _ (s2.trans s3) ?_
    rw [List.getD_eq_getElem?_getD, h1]
    exact ⟨q3, q2, rfl, off_in (fun z => dm _ z (s2.free n3)) upd_same, off_in (fun z => dm _ z n2) (s3 _ _ e2)⟩
  · have e : (List.range xs.length).map (fun i => L.getD i ⟨[], 0, 0⟩) = L := by
      rw [hlen]
      refine List.ext_getElem? fun i => ?_
      rw [List.getElem?_map, range_get]
      by_cases hi : i < L.length
      · rw [if_pos hi, List.getElem?_eq_getElem hi]
        show some (L.getD i _) = _
        rw [List.getD_eq_getElem?_getD, List.getElem?_eq_getElem hi]
        rfl
      · rw [if_neg hi, List.getElem?_eq_none (by omega)]
        rfl
    rw [e]
    exact k
def sp_copied_looks (Z : Ctx) : Sp := fun vs H Q _ => ∃ v, ∃ L : List Lk, vs = [v] ∧ rep H v L ∧ L.length ≤ 1000 ∧ NewL (dom H) H L Q
abbrev r_copied_looks (Z : Ctx) : TS := (tRet (tLc (iList Z.K (tVar 0)) (gTup Z.K 2 (gCons (gName 1) (gCons (gName 2) gNil))) tYes (tTup (tCons (tVar 1) (tCons (tCB (rLstG Z.K) (tCons (tVar 2) tNil)) tNil))) [1, 2]))
theorem ln_copied_looks : sp_copied_looks Z vs H Q E → vs.length = 1 := by rintro ⟨_, _, rfl, _⟩; rfl
abbrev nm_copied_looks : List Str := ["rows", "moment", "weights"]
theorem rd_copied_looks (h : sp_copied_looks Z vs H Q E) : r_copied_looks Z (ends Q) (L2.start nm_copied_looks vs) H := by
  obtain ⟨v, L, rfl, ⟨l, xs, rfl, hl, ha⟩, hz, k⟩ := h
  have hlen := ha.len
  show r_copied_looks Z (ends Q) [some (.ref l), none, none] H
  unfold r_copied_looks ends
  walk_at "rd"
  refine lcGT (β := Lk) (xs := xs) (fun R h => by walk_at "rd"; exact h) (dom H) (fun i => L.getD i ⟨0, []⟩) (SqL.of hl) (by omega) (fun _ h => h) (fun i x H1 M1 hi s so dm R k1 => ?_) ?_
  · obtain ⟨y, h1, h2, ⟨p, q, rfl, h3, h4⟩⟩ := l_at ha hi
    have h3 := s _ _ h3
    have h4 := s _ _ h4
    refine w_gtup2 h3 ⟨rfl, ?_⟩
    show tTup _ [some (.ref l), some (.int y.t), some (.ref q)] H1 R
    walk_at "rd"
    refine w_lst h4 fun q2 n2 => ?_
    have s2 := same_new (o := .lst (y.ws.map V.int)) n2
    have e2 : (upd H1 q2 (.lst (y.ws.map V.int))) q2 = some (.lst (y.ws.map V.int)) := upd_same
    generalize upd H1 q2 (.lst (y.ws.map V.int)) = H2 at s2 e2
    walk_at "rd"
    refine ⟨small _ (by simp), fun q3 n3 => ?_⟩
    have s3 := same_new (o := .tup [V.int y.t, .ref q2]) n3
    refine k1 _ _ (s2.trans s3) ?_
    rw [List.getD_eq_getElem?_getD, h1]
    exact ⟨q3, q2, rfl, off_in (fun z => dm _ z (s2.free n3)) upd_same, off_in (fun z => dm _ z n2) (s3 _ _ e2)⟩
  · have e : (List.range xs.length).map (fun i => L.getD i ⟨0, []⟩) = L := by
      rw [hlen]
      refine List.ext_getElem? fun i => ?_
      rw [List.getElem?_map, range_get]
      by_cases hi : i < L.length
      · rw [if_pos hi, List.getElem?_eq_getElem hi]
        show some (L.getD i _) = _
        rw [List.getD_eq_getElem?_getD, List.getElem?_eq_getElem hi]
        rfl
      · rw [if_neg hi, List.getElem?_eq_none (by omega)]
        rfl
    rw [e]
    exact k
end
end G
end
section
set_option Elab.async false
set_option linter.all false
set_option maxRecDepth 100000
namespace G
open PySem L2 PyProof.Rows
local macro_rules | `(tactic| walk_at "rd") => `(tactic| repeat (first
  | (with_reducible refine v_seq ?_)
  | (with_reducible refine v_asg ?_)
  | (with_reducible refine w_cons ?_)
  | (with_reducible refine w_nil ?_)
  | (with_reducible refine w_op ?_)
  | (with_reducible refine w_c ?_)
  | (with_reducible refine w_I0 ?_)
  | (with_reducible refine w_cb ?_)
  | (with_reducible refine w_call ?_)
  | (with_reducible refine v_ret ?_)
  | (with_reducible refine v_next ?_)
  | (with_reducible refine w_ixR (by assumption) (by assumption) ?_)
  | (with_reducible refine w_ix (by assumption) (by assumption) ?_)
  | (with_reducible refine w_test ?_)
  | (with_reducible refine w_tB ?_)
  | (with_reducible refine w_and ?_)
  | (with_reducible refine w_or ?_)
  | (with_reducible refine w_not ?_)
  | (with_reducible refine w_ifE ?_)
  | (with_reducible refine v_ifS ?_)
  | (with_reducible refine w_tt ?_)
  | (with_reducible refine w_ff ?_)
  | (with_reducible refine w_eqI ?_)
  | (with_reducible refine w_neI ?_)
  | (with_reducible refine w_U ?_)
  | (with_reducible refine w_un ?_)
  | (with_reducible refine w_len (by assumption) ?_)
  | (with_reducible refine w_abs ?_)
  | (with_reducible refine w_int ?_)
  | (with_reducible refine w_isN0 ?_)
  | (with_reducible refine w_isN1 (by assumption) ?_)
  | (with_reducible refine w_isN1 ne_in ?_)
  | (with_reducible refine w_isN1 ne_rn ?_)
  | (with_reducible refine w_notN0 ?_)
  | (with_reducible refine w_notN1 ne_in ?_)
  | (with_reducible refine w_notN1 ne_rn ?_)
  | (with_reducible refine v_lst ?_)
  | (with_reducible refine v_tup ?_)
  | (with_reducible refine w_notN1 (by assumption) ?_)
  | (with_reducible refine v_drop ?_)
  | (with_reducible refine w_bm ?_)
  | (with_reducible refine v_for ?_)
  | (with_reducible refine v_rng1 ?_)
  | (with_reducible refine v_rng2 ?_)
  | (with_reducible refine v_list ?_)
  | (with_reducible refine w_sub ?_)
  | (with_reducible refine v_ip ?_)
  | (with_reducible refine v_augS ?_)
  | (with_reducible refine v_retN ?_)
  | (with_reducible refine w_yes ?_)
  | (with_reducible refine tv_0 ?_)
  | (with_reducible refine nv_0 ?_)
  | (with_reducible refine av_0 ?_)
  | (with_reducible refine tv_1 ?_)
  | (with_reducible refine nv_1 ?_)
  | (with_reducible refine av_1 ?_)
  | (with_reducible refine tv_2 ?_)
  | (with_reducible refine nv_2 ?_)
  | (with_reducible refine av_2 ?_)
  | (with_reducible refine tv_3 ?_)
  | (with_reducible refine nv_3 ?_)
  | (with_reducible refine av_3 ?_)
  | (with_reducible refine tv_4 ?_)
  | (with_reducible refine nv_4 ?_)
  | (with_reducible refine av_4 ?_)
  | (with_reducible refine tv_5 ?_)
  | (with_reducible refine nv_5 ?_)
  | (with_reducible refine av_5 ?_)
  | (with_reducible refine tv_6 ?_)
  | (with_reducible refine nv_6 ?_)
  | (with_reducible refine av_6 ?_)
  | (with_reducible refine tv_7 ?_)
  | (with_reducible refine nv_7 ?_)
  | (with_reducible refine av_7 ?_)
  | (with_reducible refine tv_8 ?_)
  | (with_reducible refine nv_8 ?_)
  | (with_reducible refine av_8 ?_)
  | (with_reducible refine tv_9 ?_)
  | (with_reducible refine nv_9 ?_)
  | (with_reducible refine av_9 ?_)
  | (with_reducible refine tv_10 ?_)
  | (with_reducible refine nv_10 ?_)
  | (with_reducible refine av_10 ?_)
  | (with_reducible refine tv_11 ?_)
  | (with_reducible refine nv_11 ?_)
  | (with_reducible refine av_11 ?_)
  | (with_reducible refine tv_12 ?_)
  | (with_reducible refine nv_12 ?_)
  | (with_reducible refine av_12 ?_)
  | (with_reducible refine tv_13 ?_)
  | (with_reducible refine nv_13 ?_)
  | (with_reducible refine av_13 ?_)
  | (with_reducible refine tv_14 ?_)
  | (with_reducible refine nv_14 ?_)
  | (with_reducible refine av_14 ?_)
  | (with_reducible refine tv_15 ?_)
  | (with_reducible refine nv_15 ?_)
  | (with_reducible refine av_15 ?_)
  | (with_reducible refine tv_16 ?_)
  | (with_reducible refine nv_16 ?_)
  | (with_reducible refine av_16 ?_)
  | (with_reducible refine tv_17 ?_)
  | (with_reducible refine nv_17 ?_)
  | (with_reducible refine av_17 ?_)
  | (with_reducible refine tv_18 ?_)
  | (with_reducible refine nv_18 ?_)
  | (with_reducible refine av_18 ?_)
  | (with_reducible refine tv_19 ?_)
  | (with_reducible refine nv_19 ?_)
  | (with_reducible refine av_19 ?_)
  | (with_reducible refine tv_20 ?_)
  | (with_reducible refine nv_20 ?_)
  | (with_reducible refine av_20 ?_)
  | (with_reducible refine tv_21 ?_)
  | (with_reducible refine nv_21 ?_)
  | (with_reducible refine av_21 ?_)
  | (with_reducible refine tv_22 ?_)
  | (with_reducible refine nv_22 ?_)
  | (with_reducible refine av_22 ?_)
  | (with_reducible refine tv_23 ?_)
  | (with_reducible refine nv_23 ?_)
  | (with_reducible refine av_23 ?_)
  | (with_reducible refine tv_24 ?_)
  | (with_reducible refine nv_24 ?_)
  | (with_reducible refine av_24 ?_)
  | (with_reducible refine tv_25 ?_)
  | (with_reducible refine nv_25 ?_)
  | (with_reducible refine av_25 ?_)
  | (with_reducible refine ⟨_, rfl, ⟨_, SqL.of (by assumption)⟩, ?_⟩)
  | (with_reducible refine ⟨_, rfl, (by omega), (by omega), ?_⟩)
  | (with_reducible refine ⟨w_tyL (by assumption), ?_⟩)
  | (with_reducible refine w_isiII ?_)
  | (with_reducible refine w_isiIB ?_)
  | (with_reducible refine w_isiBB ?_)
  | (with_reducible refine w_isiBI ?_)
  | (with_reducible refine w_isiNL ?_)
  | (with_reducible refine w_isiLL (by assumption) ?_)
  | (with_reducible refine v_sl ?_)
  | (with_reducible refine w_nff ?_)
  | (with_reducible refine w_ntt ?_)
  | (with_reducible refine v_chain ?_)
  | (with_reducible refine v_andV ?_)
  | (with_reducible refine v_orV ?_)
  | (with_reducible refine v_chain3 ?_)
  | (with_reducible refine w_min2 ?_)
  | (with_reducible refine v_lstRg ?_)
  | (with_reducible refine w_in (by assumption) ?_)
  | (with_reducible refine w_nin (by assumption) ?_)
  | (with_reducible refine v_notV ?_)
  | (with_reducible refine v_noP ?_)
  | (with_reducible refine v_part ?_)
  | (with_reducible refine v_fld ?_)
  | (with_reducible refine v_sfld ?_)
  | (with_reducible refine ⟨_, (rfl : V.bl _ = V.bl _), ?_⟩)
  | (with_reducible refine ⟨_, (rfl : V.ref _ = V.ref _), ?_⟩)
  | (with_reducible refine ⟨_, (rfl : [V.int _] = [V.int _]), ?_⟩)
  | (with_reducible refine ⟨_, (rfl : V.int _ = V.int _), ?_⟩)
  | (with_reducible refine ⟨⟨_, SqL.of (by assumption)⟩, ?_⟩)
  | (with_reducible refine ⟨(by (first | omega | (rw [lenV]; omega)) : -(2 ^ 62) ≤ _), (by first | omega | (rw [lenV]; omega)), ?_⟩)
  | (with_reducible refine v_meth ?_)
  | (with_reducible refine v_make ?_)
  | (with_reducible refine w_neBB ?_)
  | (with_reducible refine w_eqBB ?_)
  | (with_reducible refine w_isiRI (by assumption) ?_)
  ))
/-! ### plans -/
structure PlanCls (Z : Ctx) : Prop where
  cl : Cls Z.K (Z.cls "Plan")
  nb : NoAttr Z.K (Z.cls "Plan") "book_count"
  nm : NoAttr Z.K (Z.cls "Plan") "last_moment"
  ns : NoAttr Z.K (Z.cls "Plan") "start_row"
  nl : NoAttr Z.K (Z.cls "Plan") "line_list"
  nd : NoAttr Z.K (Z.cls "Plan") "door_list"
  nk : NoAttr Z.K (Z.cls "Plan") "look_list"
theorem pu_ne {f g : Str} {v x : V} {r : List (Str × V)} (h : ¬ g = f) : putF f v ((g, x) :: r) = (g, x) :: putF f v r := by
  show (if g = f then _ else _) = _
  rw [if_neg h]
theorem lk_ne {f g : Str} {v : V} {r : List (Str × V)} (h : ¬ g = f) : ((f, v) :: r).lookup g = r.lookup g := by
  rw [List.lookup_cons]
  have : (g == f) = false := by simpa using h
  rw [this]
theorem lk_eq {f : Str} {v : V} {r : List (Str × V)} : ((f, v) :: r).lookup f = some v := by
  rw [List.lookup_cons]
  simp
def pf (w m : Nat) (vs vl vd vk : V) : List (Str × V) := [("book_count", .int (w : Int)), ("last_moment", .int (m : Int)), ("start_row", vs), ("line_list", vl), ("door_list", vd), ("look_list", vk)]
section
variable {w m : Nat} {vs vl vd vk : V}
theorem lk_book : (pf w m vs vl vd vk).lookup ("book_count" : Str) = some (.int (w : Int)) := lk_eq
theorem lk_last : (pf w m vs vl vd vk).lookup ("last_moment" : Str) = some (.int (m : Int)) := (lk_ne (by decide +kernel)).trans lk_eq
theorem lk_start : (pf w m vs vl vd vk).lookup ("start_row" : Str) = some vs := (lk_ne (by decide +kernel)).trans ((lk_ne (by decide +kernel)).trans lk_eq)
theorem lk_line : (pf w m vs vl vd vk).lookup ("line_list" : Str) = some vl := (lk_ne (by decide +kernel)).trans ((lk_ne (by decide +kernel)).trans ((lk_ne (by decide +kernel)).trans lk_eq))
theorem lk_door : (pf w m vs vl vd vk).lookup ("door_list" : Str) = some vd := (lk_ne (by decide +kernel)).trans ((lk_ne (by decide +kernel)).trans ((lk_ne (by decide +kernel)).trans ((lk_ne (by decide +kernel)).trans lk_eq)))
theorem lk_look : (pf w m vs vl vd vk).lookup ("look_list" : Str) = some vk := (lk_ne (by decide +kernel)).trans ((lk_ne (by decide +kernel)).trans ((lk_ne (by decide +kernel)).trans ((lk_ne (by decide +kernel)).trans ((lk_ne (by decide +kernel)).trans lk_eq))))
end
/-- a Plan with these rows -/
def PlanAt (Z : Ctx) (H : Hp) (v : V) (w m : Nat) (st : Row) (L D : List Ln) (K : List Lk) : Prop := ∃ a dx vs vl vd vk, v = .ref a ∧ H a = some (.ins (Z.cls "Plan") dx (pf w m vs vl vd vk)) ∧ rep H vs st ∧ rep H vl L ∧ rep H vd D ∧ rep H vk K
theorem PlanAt.mono {Z : Ctx} {H H' : Hp} {v : V} {w m : Nat} {st : Row} {L D : List Ln} {K : List Lk} (h : PlanAt Z H v w m st L D K) (s : Same H H') : PlanAt Z H' v w m st L D K := by
  obtain ⟨a, dx, v1, v2, v3, v4, e, h1, h2, h3, h4, h5⟩ := h
  exact ⟨a, dx, v1, v2, v3, v4, e, s _ _ h1, Rep.mono s h2, Rep.mono s h3, Rep.mono s h4, Rep.mono s h5⟩
section
variable {Z : Ctx} {vs : List V} {H : Hp} {Q : VK} {E : XK}
/-- the rows a Plan is made of -/
structure PRows (H : Hp) (s u v k : V) (st : Row) (L D : List Ln) (K : List Lk) : Prop where
  s : rep H s st
  l : rep H u L
  d : rep H v D
  k : rep H k K
theorem PRows.mono {H H' : Hp} {s u v k : V} {st : Row} {L D : List Ln} {K : List Lk} (h : PRows H s u v k st L D K) (e : Same H H') : PRows H' s u v k st L D K := ⟨Rep.mono e h.s, Rep.mono e h.l, Rep.mono e h.d, Rep.mono e h.k⟩
def sp_Plan___init__ (Z : Ctx) : Sp := fun vs H Q _ => ∃ (x dx : Addr) (s u v k : V) (w m : Nat) (st : Row) (L D : List Ln) (K : List Lk), vs = [.ref x, .int (w : Int), .int (m : Int), s, u, v, k] ∧ H x = some (.ins (Z.cls "Plan") dx []) ∧ PRows (off H fun a => a = x) s u v k st L D K ∧ PlanOk w m st L D K ∧
  ∀ H' v1 v2 v3 v4, Chg x H H' → H' x = some (.ins (Z.cls "Plan") dx (pf w m v1 v2 v3 v4)) → PRows (off H' (dom H)) v1 v2 v3 v4 st L D K → Q .non H'
abbrev r_Plan___init__ (Z : Ctx) : TS := (tSeq (tDrop (tCall (sp_check_counts Z) [] E0 (tCons (tVar 1) (tCons (tVar 2) (tCons (tVar 4) (tCons (tVar 5) (tCons (tVar 6) tNil))))))) (tSeq (tFor (iList Z.K (tOp rCat (tCB (rLstG Z.K) (tCons (tVar 4) tNil)) (tCB (rLstG Z.K) (tCons (tVar 5) tNil)))) (gName 7) (tDrop (tCall (sp_check_numbers Z) [] E0 (tCons (tOp (rIxGT Z.K) (tVar 7) (tC (.int 0))) (tCons (tC (.int 1000000)) tNil))))) (tSeq (tFor (iList Z.K (tVar 6)) (gName 7) (tDrop (tCall (sp_check_numbers Z) [] E0 (tCons (tOp (rIxGT Z.K) (tVar 7) (tC (.int 1))) (tCons (tC (.int 1000000)) tNil))))) (tSeq (tDrop (tCall (sp_check_numbers Z) [] E0 (tCons (tVar 3) (tCons (tC (.int 1000000000000000000000000000000)) tNil)))) (tSeq (tDrop (tCall (sp_check_rows Z) [] E0 (tCons (tVar 1) (tCons (tVar 2) (tCons (tVar 3) (tCons (tVar 4) (tCons (tVar 5) (tCons (tVar 6) tNil)))))))) (tSeq (sFld Z.K (tVar 0) (tVar 1) "book_count") (tSeq (sFld Z.K (tVar 0) (tVar 2) "last_moment") (tSeq (sFld Z.K (tVar 0) (tCB (rLstG Z.K) (tCons (tVar 3) tNil)) "start_row") (tSeq (sFld Z.K (tVar 0) (tCall (sp_copied_spans Z) [] E0 (tCons (tVar 4) tNil)) "line_list") (tSeq (sFld Z.K (tVar 0) (tCall (sp_copied_spans Z) [] E0 (tCons (tVar 5) tNil)) "door_list") (sFld Z.K (tVar 0) (tCall (sp_copied_looks Z) [] E0 (tCons (tVar 6) tNil)) "look_list")))))))))))
theorem ln_Plan___init__ : sp_Plan___init__ Z vs H Q E → vs.length = 7 := by rintro ⟨_, _, _, _, _, _, _, _, _, _, _, _, rfl, _⟩; rfl
abbrev nm_Plan___init__ : List Str := ["self", "books", "moments", "start", "lines", "doors", "looks", "row"]
theorem rd_Plan___init__ (PC : PlanCls Z) (h : sp_Plan___init__ Z vs H Q E) : r_Plan___init__ Z (ends Q) (L2.start nm_Plan___init__ vs) H := by
  obtain ⟨x, dx, s, u, v, k, w, m, st, L, D, K, rfl, hx, R, ok, q⟩ := h
  have := ok.w9
  have := ok.m40
  have := ok.lL
  have := ok.lD
  have := ok.lK
  have R0 := R.mono off_same
  obtain ⟨l1, x1, e1, h1, a1⟩ := R0.l
  obtain ⟨l2, x2, e2, h2, a2⟩ := R0.d
  obtain ⟨l3, x3, e3, h3, a3⟩ := R0.k
  have f1 := a1.len
  have f2 := a2.len
  have f3 := a3.len
  show r_Plan___init__ Z (ends Q) [some (.ref x), some (.int (w : Int)), some (.int (m : Int)), some s, some u, some v, some k, none] H
  unfold r_Plan___init__ ends
  walk_at "rd"
  refine ⟨_, _, u, v, k, L, D, K, rfl, by omega, by omega, R0.l, R0.d, R0.k, ok.lL, ok.lD, ok.lK, ?_⟩
  rw [e1, e2]
  walk_at "rd"
  refine w_lst h1 fun c1 n1 => ?_
  have s1 := same_new (o := .lst x1) n1
  have d1 : (upd H c1 (.lst x1)) c1 = some (.lst x1) := upd_same
  generalize upd H c1 (.lst x1) = H1 at s1 d1
  walk_at "rd"
  refine w_lst (s1 _ _ h2) fun c2 n2 => ?_
  have s2 := same_new (o := .lst x2) n2
  have d2 : (upd H1 c2 (.lst x2)) c2 = some (.lst x2) := upd_same
  generalize upd H1 c2 (.lst x2) = H2 at s2 d2
  refine w_cat (s2 _ _ d1) d2 (by omega) fun c3 n3 => ?_
  have s3 := same_new (o := .lst (x1 ++ x2)) n3
  have d3 : (upd H2 c3 (.lst (x1 ++ x2))) c3 = some (.lst (x1 ++ x2)) := upd_same
  generalize upd H2 c3 (.lst (x1 ++ x2)) = H3 at s3 d3
  have s03 := s1.trans (s2.trans s3)
  have a12 : All2 (rep H3) (x1 ++ x2) (L ++ D) := (all2_mono s03 a1).app (all2_mono s03 a2)
  have okLD : ∀ y ∈ L ++ D, LnOk w m y := fun y hy => (List.mem_append.mp hy).elim (ok.okL y) (ok.okD y)
  generalize L ++ D = LD at a12 okLD
  generalize x1 ++ x2 = x12 at a12 d3
  walk_at "rd"
  refine forL (xs := x12) (fun i σ H' => ∃ e, σ = [some (.ref x), some (.int (w : Int)), some (.int (m : Int)), some s, some (.ref l1), some (.ref l2), some k, e] ∧ H' = H3) ⟨_, rfl, rfl⟩ (fun i σ H' _ ⟨_, _, e⟩ => e ▸ SqL.of d3) ?_ ?_
  · rintro i y σ H' hi ⟨e, rfl, rfl⟩
    obtain ⟨z, g1, g2, ⟨p, q', rfl, g3, g4⟩⟩ := l_at a12 hi
    obtain ⟨⟨_, _, b1⟩, _⟩ := okLD z g2
    walk_at "rd"
    refine w_ixTat 0 0 rfl g3 rfl ?_
    walk_at "rd"
    refine ⟨.ref q', _, z.sh, rfl, .row (rep_row_of g4), b1, ?_⟩
    exact ⟨_, rfl, rfl⟩
  rintro σ H' ⟨e, rfl, rfl⟩
  have h3' := s03 _ _ h3
  have a3' := all2_mono s03 a3
  rw [e3]
  walk_at "rd"
  refine forL (xs := x3) (fun i σ H'' => ∃ e, σ = [some (.ref x), some (.int (w : Int)), some (.int (m : Int)), some s, some (.ref l1), some (.ref l2), some (.ref l3), e] ∧ H'' = H') ⟨_, rfl, rfl⟩ (fun i σ H'' _ ⟨_, _, e⟩ => e ▸ SqL.of h3') ?_ ?_
  · rintro i y σ H'' hi ⟨e, rfl, rfl⟩
    obtain ⟨z, g1, g2, ⟨p, q', rfl, g3, g4⟩⟩ := l_at a3' hi
    obtain ⟨⟨_, _, b1⟩, _⟩ := ok.okK z g2
    walk_at "rd"
    refine w_ixTat 1 1 rfl g3 rfl ?_
    walk_at "rd"
    refine ⟨.ref q', _, z.ws, rfl, .row (rep_row_of g4), b1, ?_⟩
    exact ⟨_, rfl, rfl⟩
  rintro σ H'' ⟨e, rfl, rfl⟩
  have R3 := R0.mono s03
  walk_at "rd"
  refine ⟨s, _, st, rfl, .row R3.s, ok.stb, ?_⟩
  walk_at "rd"
  refine ⟨s, .ref l1, .ref l2, .ref l3, w, m, st, L, D, K, rfl, R3.s, by rw [← e1]; exact R3.l, by rw [← e2]; exact R3.d, by rw [← e3]; exact R3.k, ok, fun H4 s4 => ?_⟩
  have s04 := s03.trans s4
  have hx4 := s04 _ _ hx
  have dx0 : dom H x := dom_of hx
  have R4 := R.mono (off_mono (M := fun a => a = x) s04)
  walk_at "rd"
  refine ⟨x, _, dx, _, rfl, hx4, PC.cl, PC.nb, by decide, ?_⟩
  walk_at "rd"
  refine ⟨x, _, dx, _, rfl, upd_same, PC.cl, PC.nm, by simp [putF], ?_⟩
  rw [upd_upd, show putF "last_moment" (.int (m : Int)) (putF "book_count" (.int (w : Int)) []) = [(("book_count" : Str), V.int (w : Int)), (("last_moment" : Str), .int (m : Int))] from pu_ne (by decide +kernel)]
  have c5 : Chg x H (upd H4 x (.ins (Z.cls "Plan") dx [(("book_count" : Str), V.int (w : Int)), (("last_moment" : Str), .int (m : Int))])) := (Chg.of s04).trans chg_upd
  have hx5 : (upd H4 x (.ins (Z.cls "Plan") dx [(("book_count" : Str), V.int (w : Int)), (("last_moment" : Str), .int (m : Int))])) x = some (.ins (Z.cls "Plan") dx [(("book_count" : Str), V.int (w : Int)), (("last_moment" : Str), .int (m : Int))]) := upd_same
  generalize upd H4 x (.ins (Z.cls "Plan") dx [(("book_count" : Str), V.int (w : Int)), (("last_moment" : Str), .int (m : Int))]) = H5 at c5 hx5
  have R5 := (R.mono (c5.off (M := fun a => a = x) rfl)).mono off_same
  have R5x := R.mono (c5.off (M := fun a => a = x) rfl)
  obtain ⟨ps, rfl, hps⟩ := rep_row.mp R5.s
  have dH : ∀ {H' : Hp}, Chg x H H' → dom H' x → ∀ a, dom H a → dom H' a := fun c d a h => c.dom d h
  walk_at "rd"
  refine w_lst hps fun p6 n6 => ?_
  have s6 := same_new (o := .lst (st.map V.int)) n6
  have e6 : (upd H5 p6 (.lst (st.map V.int))) p6 = some (.lst (st.map V.int)) := upd_same
  generalize upd H5 p6 (.lst (st.map V.int)) = H6 at s6 e6
  have hx6 := s6 _ _ hx5
  have t1 : rep (off H6 (dom H)) (.ref p6) st := rep_row_of (off_in (fun z => dH c5 (dom_of hx5) _ z n6) e6)
  walk_at "rd"
  refine ⟨x, _, dx, _, rfl, hx6, PC.cl, PC.ns, by simp, ?_⟩
  rw [show putF "start_row" (.ref p6) [(("book_count" : Str), V.int (w : Int)), (("last_moment" : Str), .int (m : Int))] = [(("book_count" : Str), V.int (w : Int)), (("last_moment" : Str), .int (m : Int)), (("start_row" : Str), .ref p6)] from (pu_ne (by decide +kernel)).trans (congrArg _ (pu_ne (by decide +kernel)))]
  have c7 : Chg x H (upd H6 x (.ins (Z.cls "Plan") dx [(("book_count" : Str), V.int (w : Int)), (("last_moment" : Str), .int (m : Int)), (("start_row" : Str), .ref p6)])) := c5.trans ((Chg.of s6).trans chg_upd)
  have hx7 : (upd H6 x (.ins (Z.cls "Plan") dx [(("book_count" : Str), V.int (w : Int)), (("last_moment" : Str), .int (m : Int)), (("start_row" : Str), .ref p6)])) x = some (.ins (Z.cls "Plan") dx [(("book_count" : Str), V.int (w : Int)), (("last_moment" : Str), .int (m : Int)), (("start_row" : Str), .ref p6)]) := upd_same
  have t1 : rep (off (upd H6 x (.ins (Z.cls "Plan") dx [(("book_count" : Str), V.int (w : Int)), (("last_moment" : Str), .int (m : Int)), (("start_row" : Str), .ref p6)])) (dom H)) (.ref p6) st := by rw [off_upd dx0]; exact t1
  generalize upd H6 x (.ins (Z.cls "Plan") dx [(("book_count" : Str), V.int (w : Int)), (("last_moment" : Str), .int (m : Int)), (("start_row" : Str), .ref p6)]) = H7 at c7 hx7 t1
  have R7 := (R.mono (c7.off (M := fun a => a = x) rfl)).mono off_same
  walk_at "rd"
  refine ⟨.ref l1, L, rfl, by rw [← e1]; exact R7.l, by omega, fun p8 x8 H8 s8 n8 e8 a8 => ?_⟩
  have hx8 := s8 _ _ hx7
  have t2 : rep (off H8 (dom H)) (.ref p8) L := ⟨p8, x8, rfl, off_in (fun z => dH c7 (dom_of hx7) _ z n8) e8, all2_mono (off_less fun a z => .inl (dH c7 (dom_of hx7) a z)) a8⟩
  have t1 := Rep.mono (off_mono s8) t1
  walk_at "rd"
  refine ⟨x, _, dx, _, rfl, hx8, PC.cl, PC.nl, by simp, ?_⟩
  rw [show putF "line_list" (.ref p8) [(("book_count" : Str), V.int (w : Int)), (("last_moment" : Str), .int (m : Int)), (("start_row" : Str), .ref p6)] = [(("book_count" : Str), V.int (w : Int)), (("last_moment" : Str), .int (m : Int)), (("start_row" : Str), .ref p6), (("line_list" : Str), .ref p8)] from (pu_ne (by decide +kernel)).trans (congrArg _ ((pu_ne (by decide +kernel)).trans (congrArg _ (pu_ne (by decide +kernel)))))]
  have c9 : Chg x H (upd H8 x (.ins (Z.cls "Plan") dx [(("book_count" : Str), V.int (w : Int)), (("last_moment" : Str), .int (m : Int)), (("start_row" : Str), .ref p6), (("line_list" : Str), .ref p8)])) := c7.trans ((Chg.of s8).trans chg_upd)
  have hx9 : (upd H8 x (.ins (Z.cls "Plan") dx [(("book_count" : Str), V.int (w : Int)), (("last_moment" : Str), .int (m : Int)), (("start_row" : Str), .ref p6), (("line_list" : Str), .ref p8)])) x = some (.ins (Z.cls "Plan") dx [(("book_count" : Str), V.int (w : Int)), (("last_moment" : Str), .int (m : Int)), (("start_row" : Str), .ref p6), (("line_list" : Str), .ref p8)]) := upd_same
  have eo : off (upd H8 x (.ins (Z.cls "Plan") dx [(("book_count" : Str), V.int (w : Int)), (("last_moment" : Str), .int (m : Int)), (("start_row" : Str), .ref p6), (("line_list" : Str), .ref p8)])) (dom H) = off H8 (dom H) := off_upd dx0
  rw [← eo] at t1 t2
  generalize upd H8 x (.ins (Z.cls "Plan") dx [(("book_count" : Str), V.int (w : Int)), (("last_moment" : Str), .int (m : Int)), (("start_row" : Str), .ref p6), (("line_list" : Str), .ref p8)]) = H9 at c9 hx9 t1 t2
  have R9 := (R.mono (c9.off (M := fun a => a = x) rfl)).mono off_same
  walk_at "rd"
  refine ⟨.ref l2, D, rfl, by rw [← e2]; exact R9.d, by omega, fun p10 x10 H10 s10 n10 e10 a10 => ?_⟩
  have hx10 := s10 _ _ hx9
  have t3 : rep (off H10 (dom H)) (.ref p10) D := ⟨p10, x10, rfl, off_in (fun z => dH c9 (dom_of hx9) _ z n10) e10, all2_mono (off_less fun a z => .inl (dH c9 (dom_of hx9) a z)) a10⟩
  have t1 := Rep.mono (off_mono s10) t1
  have t2 := Rep.mono (off_mono s10) t2
  walk_at "rd"
  refine ⟨x, _, dx, _, rfl, hx10, PC.cl, PC.nd, by simp, ?_⟩
  rw [show putF "door_list" (.ref p10) [(("book_count" : Str), V.int (w : Int)), (("last_moment" : Str), .int (m : Int)), (("start_row" : Str), .ref p6), (("line_list" : Str), .ref p8)] = [(("book_count" : Str), V.int (w : Int)), (("last_moment" : Str), .int (m : Int)), (("start_row" : Str), .ref p6), (("line_list" : Str), .ref p8), (("door_list" : Str), .ref p10)] from (pu_ne (by decide +kernel)).trans (congrArg _ ((pu_ne (by decide +kernel)).trans (congrArg _ ((pu_ne (by decide +kernel)).trans (congrArg _ (pu_ne (by decide +kernel)))))))]
  have c11 : Chg x H (upd H10 x (.ins (Z.cls "Plan") dx [(("book_count" : Str), V.int (w : Int)), (("last_moment" : Str), .int (m : Int)), (("start_row" : Str), .ref p6), (("line_list" : Str), .ref p8), (("door_list" : Str), .ref p10)])) := c9.trans ((Chg.of s10).trans chg_upd)
  have hx11 : (upd H10 x (.ins (Z.cls "Plan") dx [(("book_count" : Str), V.int (w : Int)), (("last_moment" : Str), .int (m : Int)), (("start_row" : Str), .ref p6), (("line_list" : Str), .ref p8), (("door_list" : Str), .ref p10)])) x = some (.ins (Z.cls "Plan") dx [(("book_count" : Str), V.int (w : Int)), (("last_moment" : Str), .int (m : Int)), (("start_row" : Str), .ref p6), (("line_list" : Str), .ref p8), (("door_list" : Str), .ref p10)]) := upd_same
  have eo : off (upd H10 x (.ins (Z.cls "Plan") dx [(("book_count" : Str), V.int (w : Int)), (("last_moment" : Str), .int (m : Int)), (("start_row" : Str), .ref p6), (("line_list" : Str), .ref p8), (("door_list" : Str), .ref p10)])) (dom H) = off H10 (dom H) := off_upd dx0
  rw [← eo] at t1 t2 t3
  generalize upd H10 x (.ins (Z.cls "Plan") dx [(("book_count" : Str), V.int (w : Int)), (("last_moment" : Str), .int (m : Int)), (("start_row" : Str), .ref p6), (("line_list" : Str), .ref p8), (("door_list" : Str), .ref p10)]) = H11 at c11 hx11 t1 t2 t3
  have R11 := (R.mono (c11.off (M := fun a => a = x) rfl)).mono off_same
  walk_at "rd"
  refine ⟨.ref l3, K, rfl, by rw [← e3]; exact R11.k, by omega, fun p12 x12 H12 s12 n12 e12 a12 => ?_⟩
  have hx12 := s12 _ _ hx11
  have t4 : rep (off H12 (dom H)) (.ref p12) K := ⟨p12, x12, rfl, off_in (fun z => dH c11 (dom_of hx11) _ z n12) e12, all2_mono (off_less fun a z => .inl (dH c11 (dom_of hx11) a z)) a12⟩
  walk_at "rd"
  refine ⟨x, _, dx, _, rfl, hx12, PC.cl, PC.nk, by simp, ?_⟩
  rw [show putF "look_list" (.ref p12) [(("book_count" : Str), V.int (w : Int)), (("last_moment" : Str), .int (m : Int)), (("start_row" : Str), .ref p6), (("line_list" : Str), .ref p8), (("door_list" : Str), .ref p10)] = pf w m (.ref p6) (.ref p8) (.ref p10) (.ref p12) from (pu_ne (by decide +kernel)).trans (congrArg _ ((pu_ne (by decide +kernel)).trans (congrArg _ ((pu_ne (by decide +kernel)).trans (congrArg _ ((pu_ne (by decide +kernel)).trans (congrArg _ (pu_ne (by decide +kernel)))))))))]
  have eo : off (upd H12 x (.ins (Z.cls "Plan") dx (pf w m (.ref p6) (.ref p8) (.ref p10) (.ref p12)))) (dom H) = off H12 (dom H) := off_upd dx0
  exact q _ _ _ _ _ (c11.trans ((Chg.of s12).trans chg_upd)) upd_same ⟨by rw [eo]; exact Rep.mono (off_mono s12) t1, by rw [eo]; exact Rep.mono (off_mono s12) t2, by rw [eo]; exact Rep.mono (off_mono s12) t3, by rw [eo]; exact t4⟩
theorem make_plan {x dx : Addr} {s u v k : V} {w m : Nat} {z1 z2 : Int} {st : Row} {L D : List Ln} {K : List Lk} {Q' : VK} (n1 : H x = none) (n2 : H dx = none) (nd : dx ≠ x) (e1 : z1 = (w : Int)) (e2 : z2 = (m : Int)) (R : PRows H s u v k st L D K) (ok : PlanOk w m st L D K)
    (q : ∀ H', Same H H' → (∀ N : Addr → Prop, (∀ a, N a → dom H a) → PlanAt Z (off H' N) (.ref x) w m st L D K) → Q' .non H') : sp_Plan___init__ Z [.ref x, .int z1, .int z2, s, u, v, k] (upd (upd H dx (.own x)) x (.ins (Z.cls "Plan") dx [])) Q' E := by
  have nx : (upd H dx (.own x)) x = none := by rw [upd_ne (fun e => nd e.symm)]; exact n1
  have s0 : Same H (upd (upd H dx (.own x)) x (.ins (Z.cls "Plan") dx [])) := (same_new n2).trans (same_new nx)
  subst e1
  subst e2
  have so : Same H (off (upd (upd H dx (.own x)) x (.ins (Z.cls "Plan") dx [])) fun a => a = x) := fun a o e => off_in (fun z => by rw [z, n1] at e; cases e) (s0 a o e)
  refine ⟨x, dx, s, u, v, k, w, m, st, L, D, K, rfl, upd_same, R.mono so, ok, fun H' v1 v2 v3 v4 c e R' => q H' (fun a o e => c a o (fun z => by rw [z, n1] at e; cases e) (s0 a o e)) fun N hN => ?_⟩
  have sl : Same (off H' (dom (upd (upd H dx (.own x)) x (.ins (Z.cls "Plan") dx [])))) (off H' N) := off_less fun a z => dom_same s0 (hN a z)
  have R2 := R'.mono sl
  exact ⟨x, dx, v1, v2, v3, v4, rfl, off_in (fun z => hN x z n1) e, R2.s, R2.l, R2.d, R2.k⟩
end
end G
end
section
set_option Elab.async false
set_option linter.all false
set_option maxRecDepth 100000
namespace G
open PySem L2 PyProof.Rows
local macro_rules | `(tactic| walk_at "rd") => `(tactic| repeat (first
  | (with_reducible refine v_seq ?_)
  | (with_reducible refine v_asg ?_)
  | (with_reducible refine w_cons ?_)
  | (with_reducible refine w_nil ?_)
  | (with_reducible refine w_op ?_)
  | (with_reducible refine w_c ?_)
  | (with_reducible refine w_I0 ?_)
  | (with_reducible refine w_cb ?_)
  | (with_reducible refine w_call ?_)
  | (with_reducible refine v_ret ?_)
  | (with_reducible refine v_next ?_)
  | (with_reducible refine w_ixR (by assumption) (by assumption) ?_)
  | (with_reducible refine w_ix (by assumption) (by assumption) ?_)
  | (with_reducible refine w_test ?_)
  | (with_reducible refine w_tB ?_)
  | (with_reducible refine w_and ?_)
  | (with_reducible refine w_or ?_)
  | (with_reducible refine w_not ?_)
  | (with_reducible refine w_ifE ?_)
  | (with_reducible refine v_ifS ?_)
  | (with_reducible refine w_tt ?_)
  | (with_reducible refine w_ff ?_)
  | (with_reducible refine w_eqI ?_)
  | (with_reducible refine w_neI ?_)
  | (with_reducible refine w_U ?_)
  | (with_reducible refine w_un ?_)
  | (with_reducible refine w_len (by assumption) ?_)
  | (with_reducible refine w_abs ?_)
  | (with_reducible refine w_int ?_)
  | (with_reducible refine w_isN0 ?_)
  | (with_reducible refine w_isN1 (by assumption) ?_)
  | (with_reducible refine w_isN1 ne_in ?_)
  | (with_reducible refine w_isN1 ne_rn ?_)
  | (with_reducible refine w_notN0 ?_)
  | (with_reducible refine w_notN1 ne_in ?_)
  | (with_reducible refine w_notN1 ne_rn ?_)
  | (with_reducible refine v_lst ?_)
  | (with_reducible refine v_tup ?_)
  | (with_reducible refine w_notN1 (by assumption) ?_)
  | (with_reducible refine v_drop ?_)
  | (with_reducible refine w_bm ?_)
  | (with_reducible refine v_for ?_)
  | (with_reducible refine v_rng1 ?_)
  | (with_reducible refine v_rng2 ?_)
  | (with_reducible refine v_list ?_)
  | (with_reducible refine w_sub ?_)
  | (with_reducible refine v_ip ?_)
  | (with_reducible refine v_augS ?_)
  | (with_reducible refine v_retN ?_)
  | (with_reducible refine w_yes ?_)
  | (with_reducible refine tv_0 ?_)
  | (with_reducible refine nv_0 ?_)
  | (with_reducible refine av_0 ?_)
  | (with_reducible refine tv_1 ?_)
  | (with_reducible refine nv_1 ?_)
  | (with_reducible refine av_1 ?_)
  | (with_reducible refine tv_2 ?_)
  | (with_reducible refine nv_2 ?_)
  | (with_reducible refine av_2 ?_)
  | (with_reducible refine tv_3 ?_)
  | (with_reducible refine nv_3 ?_)
  | (with_reducible refine av_3 ?_)
  | (with_reducible refine tv_4 ?_)
  | (with_reducible refine nv_4 ?_)
  | (with_reducible refine av_4 ?_)
  | (with_reducible refine tv_5 ?_)
  | (with_reducible refine nv_5 ?_)
  | (with_reducible refine av_5 ?_)
  | (with_reducible refine tv_6 ?_)
  | (with_reducible refine nv_6 ?_)
  | (with_reducible refine av_6 ?_)
  | (with_reducible refine tv_7 ?_)
  | (with_reducible refine nv_7 ?_)
  | (with_reducible refine av_7 ?_)
  | (with_reducible refine tv_8 ?_)
  | (with_reducible refine nv_8 ?_)
  | (with_reducible refine av_8 ?_)
  | (with_reducible refine tv_9 ?_)
  | (with_reducible refine nv_9 ?_)
  | (with_reducible refine av_9 ?_)
  | (with_reducible refine tv_10 ?_)
  | (with_reducible refine nv_10 ?_)
  | (with_reducible refine av_10 ?_)
  | (with_reducible refine tv_11 ?_)
  | (with_reducible refine nv_11 ?_)
  | (with_reducible refine av_11 ?_)
  | (with_reducible refine tv_12 ?_)
  | (with_reducible refine nv_12 ?_)
  | (with_reducible refine av_12 ?_)
  | (with_reducible refine tv_13 ?_)
  | (with_reducible refine nv_13 ?_)
  | (with_reducible refine av_13 ?_)
  | (with_reducible refine tv_14 ?_)
  | (with_reducible refine nv_14 ?_)
  | (with_reducible refine av_14 ?_)
  | (with_reducible refine tv_15 ?_)
  | (with_reducible refine nv_15 ?_)
  | (with_reducible refine av_15 ?_)
  | (with_reducible refine tv_16 ?_)
  | (with_reducible refine nv_16 ?_)
  | (with_reducible refine av_16 ?_)
  | (with_reducible refine tv_17 ?_)
  | (with_reducible refine nv_17 ?_)
  | (with_reducible refine av_17 ?_)
  | (with_reducible refine tv_18 ?_)
  | (with_reducible refine nv_18 ?_)
  | (with_reducible refine av_18 ?_)
  | (with_reducible refine tv_19 ?_)
  | (with_reducible refine nv_19 ?_)
  | (with_reducible refine av_19 ?_)
  | (with_reducible refine tv_20 ?_)
  | (with_reducible refine nv_20 ?_)
  | (with_reducible refine av_20 ?_)
  | (with_reducible refine tv_21 ?_)
  | (with_reducible refine nv_21 ?_)
  | (with_reducible refine av_21 ?_)
  | (with_reducible refine tv_22 ?_)
  | (with_reducible refine nv_22 ?_)
  | (with_reducible refine av_22 ?_)
  | (with_reducible refine tv_23 ?_)
  | (with_reducible refine nv_23 ?_)
  | (with_reducible refine av_23 ?_)
  | (with_reducible refine tv_24 ?_)
  | (with_reducible refine nv_24 ?_)
  | (with_reducible refine av_24 ?_)
  | (with_reducible refine tv_25 ?_)
  | (with_reducible refine nv_25 ?_)
  | (with_reducible refine av_25 ?_)
  | (with_reducible refine ⟨_, rfl, ⟨_, SqL.of (by assumption)⟩, ?_⟩)
  | (with_reducible refine ⟨_, rfl, (by omega), (by omega), ?_⟩)
  | (with_reducible refine ⟨w_tyL (by assumption), ?_⟩)
  | (with_reducible refine w_isiII ?_)
  | (with_reducible refine w_isiIB ?_)
  | (with_reducible refine w_isiBB ?_)
  | (with_reducible refine w_isiBI ?_)
  | (with_reducible refine w_isiNL ?_)
  | (with_reducible refine w_isiLL (by assumption) ?_)
  | (with_reducible refine v_sl ?_)
  | (with_reducible refine w_nff ?_)
  | (with_reducible refine w_ntt ?_)
  | (with_reducible refine v_chain ?_)
  | (with_reducible refine v_andV ?_)
  | (with_reducible refine v_orV ?_)
  | (with_reducible refine v_chain3 ?_)
  | (with_reducible refine w_min2 ?_)
  | (with_reducible refine v_lstRg ?_)
  | (with_reducible refine w_in (by assumption) ?_)
  | (with_reducible refine w_nin (by assumption) ?_)
  | (with_reducible refine v_notV ?_)
  | (with_reducible refine v_noP ?_)
  | (with_reducible refine v_part ?_)
  | (with_reducible refine v_fld ?_)
  | (with_reducible refine v_sfld ?_)
  | (with_reducible refine ⟨_, (rfl : V.bl _ = V.bl _), ?_⟩)
  | (with_reducible refine ⟨_, (rfl : V.ref _ = V.ref _), ?_⟩)
  | (with_reducible refine ⟨_, (rfl : [V.int _] = [V.int _]), ?_⟩)
  | (with_reducible refine ⟨_, (rfl : V.int _ = V.int _), ?_⟩)
  | (with_reducible refine ⟨⟨_, SqL.of (by assumption)⟩, ?_⟩)
  | (with_reducible refine ⟨(by (first | omega | (rw [lenV]; omega)) : -(2 ^ 62) ≤ _), (by first | omega | (rw [lenV]; omega)), ?_⟩)
  | (with_reducible refine v_meth ?_)
  | (with_reducible refine v_make ?_)
  | (with_reducible refine w_neBB ?_)
  | (with_reducible refine w_eqBB ?_)
  | (with_reducible refine w_isiRI (by assumption) ?_)
  ))
/-! ### plain shapes -/
def plainR (w a b : Nat) : Row := (List.range w).map fun j => if j + 1 = b then 1 else if j + 1 = a then -1 else 0
theorem plain_length {w a b : Nat} : (plainR w a b).length = w := by simp [plainR]
theorem plain_at {w a b j : Nat} : at0 (plainR w a b) j = if j < w then (if j + 1 = b then 1 else if j + 1 = a then -1 else 0) else 0 := at0_map_range
theorem at0_set {r : Row} {i j : Nat} {z : Int} (h : i < r.length) : at0 (r.set i z) j = if i = j then z else at0 r j := by
  unfold at0
  rw [List.getD_eq_getElem?_getD, List.getD_eq_getElem?_getD, List.getElem?_set]
  by_cases e : i = j
  · rw [if_pos e, if_pos e, if_pos h]
    rfl
  · rw [if_neg e, if_neg e]
theorem plain_bd {w a b : Nat} : ∀ x ∈ plainR w a b, -1 ≤ x ∧ x ≤ 1 := fun x hx => by
  obtain ⟨j, _, rfl⟩ := List.mem_map.mp hx
  split
  · omega
  · split <;> omega
theorem plain_set {w a b : Nat} (ha : a ≤ w) (hb : b ≤ w) : (if 0 < b then (if 0 < a then (zr w).set (a - 1) (-1) else zr w).set (b - 1) 1 else (if 0 < a then (zr w).set (a - 1) (-1) else zr w)) = plainR w a b := by
  have l0 : (if 0 < a then (zr w).set (a - 1) (-1) else zr w).length = w := by
    split
    · rw [List.length_set, zr_length]
    · exact zr_length
  have e0 : ∀ j, at0 (if 0 < a then (zr w).set (a - 1) (-1) else zr w) j = if j + 1 = a then -1 else 0 := fun j => by
    by_cases h : 0 < a
    · rw [if_pos h, at0_set (by rw [zr_length]; omega), at0_zr]
      by_cases q : a - 1 = j
      · rw [if_pos q, if_pos (by omega)]
      · rw [if_neg q, if_neg (by omega)]
    · rw [if_neg h, at0_zr, if_neg (by omega)]
  generalize (if 0 < a then (zr w).set (a - 1) (-1) else zr w) = r at l0 e0
  refine row_ext ?_ fun j => ?_
  · split
    · rw [List.length_set, l0, plain_length]
    · rw [l0, plain_length]
  · rw [plain_at]
    by_cases h : 0 < b
    · rw [if_pos h, at0_set (by omega), e0]
      by_cases q : b - 1 = j
      · rw [if_pos q, if_pos (by omega), if_pos (by omega)]
      · rw [if_neg q]
        by_cases hj : j < w
        · rw [if_pos hj, if_neg (c := j + 1 = b) (by omega)]
        · rw [if_neg hj, if_neg (by omega)]
    · rw [if_neg h, e0]
      by_cases hj : j < w
      · rw [if_pos hj, if_neg (c := j + 1 = b) (by omega)]
      · rw [if_neg hj, if_neg (by omega)]
theorem filt_one (w a : Nat) : (List.range w).filter (fun i => decide (i + 1 = a)) = if 0 < a ∧ a ≤ w then [a - 1] else [] := by
  induction w with
  | zero => rw [if_neg (by omega)]; rfl
  | succ w ih =>
    rw [List.range_succ, List.filter_append, ih]
    by_cases h : w + 1 = a
    · rw [if_neg (by omega), if_pos (by omega)]
      simp [h]
      omega
    · by_cases h2 : 0 < a ∧ a ≤ w
      · rw [if_pos h2, if_pos (by omega)]
        simp [h]
      · rw [if_neg h2, if_neg (by omega)]
        simp [h]
theorem three_filter {α : Type} {p q r : α → Bool} : ∀ {l : List α}, (∀ x ∈ l, (p x = true ∧ q x = false ∧ r x = false) ∨ (p x = false ∧ q x = true ∧ r x = false) ∨ (p x = false ∧ q x = false ∧ r x = true)) → (l.filter p).length + (l.filter q).length + (l.filter r).length = l.length
  | [], _ => rfl
  | x :: l, h => by
    have ih := three_filter (p := p) (q := q) (r := r) (l := l) fun y hy => h y (List.mem_cons_of_mem _ hy)
    rcases h x (List.mem_cons_self ..) with ⟨a, b, c⟩ | ⟨a, b, c⟩ | ⟨a, b, c⟩ <;> simp [List.filter_cons, a, b, c] <;> omega
section
variable {w a b : Nat}
def endL (a : Nat) : Row := if 0 < a then [(a : Int)] else []
theorem endL_len : (endL a).length ≤ 1 := by unfold endL; split <;> simp
theorem endL_at (h : 0 < (endL a).length) : (endL a)[0]? = some (a : Int) := by
  unfold endL at *
  split at h
  · rename_i q
    rw [if_pos q]
    rfl
  · simp at h
theorem endL_pos : 0 < (endL a).length ↔ 0 < a := by
  unfold endL
  split <;> simp_all
theorem lows_eq (ha : a ≤ w) (n : a ≠ b) : (((List.range w).filter fun i => decide (at0 (plainR w a b) i = -1)).map fun (i : Nat) => (i : Int) + 1) = endL a := by
  have e : (List.range w).filter (fun i => decide (at0 (plainR w a b) i = -1)) = (List.range w).filter fun i => decide (i + 1 = a) := List.filter_congr fun i hi => by
    rw [plain_at, if_pos (List.mem_range.mp hi)]
    by_cases h : i + 1 = b
    · rw [if_pos h, decide_eq_false (by omega), decide_eq_false (by omega)]
    · rw [if_neg h]
      by_cases h2 : i + 1 = a
      · rw [if_pos h2, decide_eq_true rfl, decide_eq_true h2]
      · rw [if_neg h2, decide_eq_false (by omega), decide_eq_false h2]
  rw [e, filt_one]
  unfold endL
  by_cases h : 0 < a
  · rw [if_pos ⟨h, ha⟩, if_pos h]
    simp
    omega
  · rw [if_neg (by omega), if_neg h]
    rfl
theorem highs_eq (hb : b ≤ w) : (((List.range w).filter fun i => decide (at0 (plainR w a b) i = 1)).map fun (i : Nat) => (i : Int) + 1) = endL b := by
  have e : (List.range w).filter (fun i => decide (at0 (plainR w a b) i = 1)) = (List.range w).filter fun i => decide (i + 1 = b) := List.filter_congr fun i hi => by
    rw [plain_at, if_pos (List.mem_range.mp hi)]
    by_cases h : i + 1 = b
    · rw [if_pos h, decide_eq_true rfl, decide_eq_true h]
    · rw [if_neg h]
      by_cases h2 : i + 1 = a
      · rw [if_pos h2, decide_eq_false (by omega), decide_eq_false (by omega)]
      · rw [if_neg h2, decide_eq_false (by omega), decide_eq_false (by omega)]
  rw [e, filt_one]
  unfold endL
  by_cases h : 0 < b
  · rw [if_pos ⟨h, hb⟩, if_pos h]
    simp
    omega
  · rw [if_neg (by omega), if_neg h]
    rfl
theorem three_len (ha : a ≤ w) (hb : b ≤ w) (n : a ≠ b) : (endL a).length + (endL b).length + ((List.range w).filter fun i => decide (at0 (plainR w a b) i = 0)).length = w := by
  rw [← lows_eq ha n, ← highs_eq (a := a) hb, List.length_map, List.length_map]
  have := three_filter (p := fun i => decide (at0 (plainR w a b) i = -1)) (q := fun i => decide (at0 (plainR w a b) i = 1)) (r := fun i => decide (at0 (plainR w a b) i = 0)) (l := List.range w) fun i hi => by
    rw [plain_at, if_pos (List.mem_range.mp hi)]
    split
    · exact .inr (.inl ⟨by decide, by decide, by decide⟩)
    · split
      · exact .inl ⟨by decide, by decide, by decide⟩
      · exact .inr (.inr ⟨by decide, by decide, by decide⟩)
  rw [this, List.length_range]
end
/-- plain lines -/
def LnP (w m : Nat) (x : Ln) : Prop := ∃ a b : Nat, a ≤ w ∧ b ≤ w ∧ a ≠ b ∧ x.sh = plainR w a b ∧ 1 ≤ x.f ∧ x.f ≤ x.l ∧ x.l ≤ (m : Int)
theorem LnP.ok {w m : Nat} {x : Ln} (h : LnP w m x) : LnOk w m x := by
  obtain ⟨a, b, ha, hb, n, e, h1, h2, h3⟩ := h
  refine ⟨⟨by rw [e, plain_length], ?_, fun y hy => by rw [e] at hy; have := plain_bd y hy; omega⟩, h1, h2, h3⟩
  rw [e]
  by_cases q : 0 < b
  · exact ⟨b - 1, by rw [plain_at, if_pos (by omega), if_pos (by omega)]; decide⟩
  · exact ⟨a - 1, by rw [plain_at, if_pos (by omega), if_neg (by omega), if_pos (by omega)]; decide⟩
section
variable {Z : Ctx} {vs : List V} {H : Hp} {Q : VK} {E : XK}
theorem ifS_post {t : TT} {a b : TS} {nx bk ct : L2.St → Hp → Prop} {rt : VK} {σ : L2.St} (T : L2.St → Hp → Prop) (hq : ∀ σ' H', T σ' H' → nx σ' H') (h : ∀ nx' : L2.St → Hp → Prop, (∀ σ' H', T σ' H' → nx' σ' H') → tIfS t a b ⟨nx', rt, bk, ct⟩ σ H) : tIfS t a b ⟨nx, rt, bk, ct⟩ σ H := h nx hq
def sp_law_plain (Z : Ctx) : Sp := fun vs H Q _ => ∃ y z : Int, ∃ w a b : Nat, vs = [.int (w : Int), .int y, .int z] ∧ y = (a : Int) ∧ z = (b : Int) ∧ a ≤ w ∧ b ≤ w ∧ w ≤ 1000 ∧ NewR H (plainR w a b) Q
abbrev r_law_plain (Z : Ctx) : TS := (tSeq (tAsg (tOp rRep (tLst (tCons (tC (.int 0)) tNil)) (tVar 0)) (gName 3)) (tSeq (tIfS (tTest (tOp rGtI (tVar 1) (tC (.int 0)))) (tAsg (tUn uNegI (tC (.int 1))) (gSub (tVar 3) (tOp rSubI (tVar 1) (tC (.int 1))) rSetG)) tNext) (tSeq (tIfS (tTest (tOp rGtI (tVar 2) (tC (.int 0)))) (tAsg (tC (.int 1)) (gSub (tVar 3) (tOp rSubI (tVar 2) (tC (.int 1))) rSetG)) tNext) (tRet (tVar 3)))))
theorem ln_law_plain : sp_law_plain Z vs H Q E → vs.length = 3 := by rintro ⟨_, _, _, _, _, rfl, _⟩; rfl
abbrev nm_law_plain : List Str := ["width", "a", "b", "row"]
theorem rd_law_plain (h : sp_law_plain Z vs H Q E) : r_law_plain Z (ends Q) (L2.start nm_law_plain vs) H := by
  obtain ⟨_, _, w, a, b, rfl, rfl, rfl, ha, hb, hw, k⟩ := h
  show r_law_plain Z (ends Q) [some (.int (w : Int)), some (.int (a : Int)), some (.int (b : Int)), none] H
  unfold r_law_plain ends
  walk_at "rd"
  refine ⟨by decide, fun l1 n1 => ?_⟩
  walk_at "rd"
  refine w_rep upd_same (by omega) fun p n2 => ?_
  have s2 := (same_new (o := .lst [V.int 0]) n1).trans (same_new (o := .lst ((List.replicate w (0 : Int)).map V.int)) n2)
  have e2 : (upd (upd H l1 (.lst [V.int 0])) p (.lst ((List.replicate w (0 : Int)).map V.int))) p = some (.lst ((zr w).map V.int)) := upd_same
  have np := free_of n1 n2
  generalize upd (upd H l1 (.lst [V.int 0])) p (.lst ((List.replicate w (0 : Int)).map V.int)) = H2 at s2 e2
  refine nv_3 (v_seq (ifS_post (fun σ' H' => σ' = [some (.int (w : Int)), some (.int (a : Int)), some (.int (b : Int)), some (.ref p)] ∧ Same H H' ∧ H' p = some (.lst ((if 0 < a then (zr w).set (a - 1) (-1) else zr w).map V.int))) ?_ ?_))
  rotate_left
  · intro nx' hq
    walk_at "rd"
    refine w_ite (fun h => ?_) (fun h => ?_)
    · walk_at "rd"
      refine w_setAt (a - 1) _ (by omega) e2 (by rw [lenV, zr_length]; omega) ?_
      rw [if_pos (by omega)] at hq
      exact hq _ _ ⟨rfl, same_mut s2 np, by rw [← List.map_set]; exact upd_same⟩
    · walk_at "rd"
      rw [if_neg (by omega)] at hq
      exact hq _ _ ⟨rfl, s2, e2⟩
  rintro σ' H3 ⟨rfl, s3, e3⟩
  have l3 : (if 0 < a then (zr w).set (a - 1) (-1) else zr w).length = w := by
    split
    · rw [List.length_set, zr_length]
    · exact zr_length
  have hp := plain_set ha hb
  generalize (if 0 < a then (zr w).set (a - 1) (-1) else zr w) = r at e3 l3 hp
  refine v_seq (ifS_post (fun σ' H' => σ' = [some (.int (w : Int)), some (.int (a : Int)), some (.int (b : Int)), some (.ref p)] ∧ Same H H' ∧ H' p = some (.lst ((plainR w a b).map V.int))) ?_ ?_)
  rotate_left
  · intro nx' hq
    rw [← hp] at hq
    walk_at "rd"
    refine w_ite (fun h => ?_) (fun h => ?_)
    · walk_at "rd"
      refine w_setAt (b - 1) _ (by omega) e3 (by rw [lenV]; omega) ?_
      rw [if_pos (by omega)] at hq
      exact hq _ _ ⟨rfl, same_mut s3 np, by rw [← List.map_set]; exact upd_same⟩
    · walk_at "rd"
      rw [if_neg (by omega)] at hq
      exact hq _ _ ⟨rfl, s3, e3⟩
  rintro σ' H4 ⟨rfl, s4, e4⟩
  walk_at "rd"
  exact k p H4 s4 np e4
theorem mod_next {w a y : Int} (h0 : 0 ≤ a) (h1 : a < w + 1) (h2 : 0 ≤ y) (h3 : y < w) : 0 ≤ (a + 1 + y).fmod (w + 1) ∧ (a + 1 + y).fmod (w + 1) < w + 1 ∧ (a + 1 + y).fmod (w + 1) ≠ a := by
  refine ⟨Int.fmod_nonneg_of_pos _ (by omega), Int.fmod_lt_of_pos _ (by omega), fun e => ?_⟩
  rw [Int.fmod_eq_emod_of_nonneg _ (by omega)] at e
  by_cases h : a + 1 + y < w + 1
  · rw [Int.emod_eq_of_lt (by omega) h] at e
    omega
  · have : a + 1 + y = (a + y - w) + (w + 1) := by omega
    rw [this, Int.add_emod_right, Int.emod_eq_of_lt (by omega) (by omega)] at e
    omega
def sp_law_shape (Z : Ctx) : Sp := fun vs H Q _ => ∃ p, ∃ w : Nat, vs = [.ref p, .int (w : Int), .int 1] ∧ PurseAt H p ∧ 1 ≤ w ∧ w ≤ 1000 ∧ ∀ D a b H', Chg p H H' → PurseAt H' p → H D = none → H' D = some (.lst ((plainR w a b).map V.int)) → a ≤ w → b ≤ w → a ≠ b → Q (.ref D) H'
abbrev r_law_shape (Z : Ctx) : TS := (tSeq (tAsg (tCall (sp_law_draw Z) [] E0 (tCons (tVar 0) (tCons (tOp rAddI (tVar 1) (tC (.int 1))) tNil))) (gName 3)) (tSeq (tAsg (tOp rModI (tCB rIntG (tCons (tOp rAddI (tOp rAddI (tVar 3) (tC (.int 1))) (tCall (sp_law_draw Z) [] E0 (tCons (tVar 0) (tCons (tVar 1) tNil)))) tNil)) (tOp rAddI (tVar 1) (tC (.int 1)))) (gName 4)) (tSeq (tIfS (tTest (tOp rEq (tVar 2) (tC (.int 1)))) (tRet (tCall (sp_law_plain Z) [] E0 (tCons (tVar 1) (tCons (tVar 3) (tCons (tVar 4) tNil))))) tNext) (tSeq (tIfS (tTest (tOp rEq (tVar 2) (tC (.int 3)))) (tRet (tLc (iList Z.K (tCall (sp_law_plain Z) [] E0 (tCons (tVar 1) (tCons (tVar 3) (tCons (tVar 4) tNil))))) (gName 5) tYes (tOp rMulI (tOp rAddI (tC (.int 2)) (tCall (sp_law_draw Z) [] E0 (tCons (tVar 0) (tCons (tC (.int 11)) tNil)))) (tVar 5)) [5])) tNext) (tSeq (tAsg (tLc (iRng1 (tCons (tVar 1) tNil)) (gName 7) tYes (tOp rSubI (tCall (sp_law_draw Z) [] E0 (tCons (tVar 0) (tCons (tC (.int 7)) tNil))) (tC (.int 3))) [7]) (gName 6)) (tRet (tIf (tNot (tB (tCall (sp_law_zero Z) [] E0 (tCons (tVar 6) tNil)))) (tVar 6) (tCall (sp_law_plain Z) [] E0 (tCons (tVar 1) (tCons (tVar 3) (tCons (tVar 4) tNil)))))))))))
theorem ln_law_shape : sp_law_shape Z vs H Q E → vs.length = 3 := by rintro ⟨_, _, rfl, _⟩; rfl
abbrev nm_law_shape : List Str := ["purse", "width", "style", "a", "b", "one", "row", "place"]
theorem rd_law_shape (h : sp_law_shape Z vs H Q E) : r_law_shape Z (ends Q) (L2.start nm_law_shape vs) H := by
  obtain ⟨p, w, rfl, hp, hw0, hw, k⟩ := h
  show r_law_shape Z (ends Q) [some (.ref p), some (.int (w : Int)), some (.int 1), none, none, none, none, none] H
  unfold r_law_shape ends
  walk_at "rd"
  refine ⟨p, _, rfl, hp, by omega, fun a H1 c1 p1 l1 l2 => ?_⟩
  walk_at "rd"
  refine ⟨p, _, rfl, p1, by omega, fun y H2 c2 p2 l3 l4 => ?_⟩
  walk_at "rd"
  refine w_I (by omega) ?_
  obtain ⟨m1, m2, m3⟩ := mod_next l1 l2 l3 l4
  generalize (a + 1 + y).fmod ((w : Int) + 1) = b at m1 m2 m3
  obtain ⟨a, rfl⟩ := Int.eq_ofNat_of_zero_le l1
  obtain ⟨b, rfl⟩ := Int.eq_ofNat_of_zero_le m1
  walk_at "rd"
  refine w_ite (fun _ => ?_) (fun h => absurd rfl h)
  walk_at "rd"
  exact ⟨_, _, w, a, b, rfl, rfl, rfl, by omega, by omega, hw, fun D H3 s3 n3 e3 => k D a b H3 ((c1.trans c2).trans (.of s3)) (p2.same s3) ((c1.trans c2).fresh p2 n3) e3 (by omega) (by omega) (by omega)⟩
def sp_law_span (Z : Ctx) : Sp := fun vs H Q _ => ∃ p, ∃ m : Nat, vs = [.ref p, .int (m : Int)] ∧ PurseAt H p ∧ 1 ≤ m ∧ ∀ t (f l : Int) H', Chg p H H' → PurseAt H' p → H t = none → H' t = some (.tup [.int f, .int l]) → 1 ≤ f → f ≤ l → l ≤ (m : Int) → Q (.ref t) H'
abbrev r_law_span (Z : Ctx) : TS := (tSeq (tAsg (tOp rAddI (tC (.int 1)) (tIf (tTest (tOp rEq (tCall (sp_law_draw Z) [] E0 (tCons (tVar 0) (tCons (tC (.int 2)) tNil))) (tC (.int 0)))) (tCall (sp_law_draw Z) [] E0 (tCons (tVar 0) (tCons (tVar 1) tNil))) (tC (.int 0)))) (gName 2)) (tRet (tTup (tCons (tVar 2) (tCons (tOp rAddI (tVar 2) (tCall (sp_law_draw Z) [] E0 (tCons (tVar 0) (tCons (tOp rAddI (tOp rSubI (tVar 1) (tVar 2)) (tC (.int 1))) tNil)))) tNil)))))
theorem ln_law_span : sp_law_span Z vs H Q E → vs.length = 2 := by rintro ⟨_, _, rfl, _⟩; rfl
abbrev nm_law_span : List Str := ["purse", "moments", "first"]
theorem rd_law_span (h : sp_law_span Z vs H Q E) : r_law_span Z (ends Q) (L2.start nm_law_span vs) H := by
  obtain ⟨p, m, rfl, hp, hm, k⟩ := h
  show r_law_span Z (ends Q) [some (.ref p), some (.int (m : Int)), none] H
  unfold r_law_span ends
  walk_at "rd"
  refine ⟨p, _, rfl, hp, by decide, fun z H1 c1 p1 l1 l2 => ?_⟩
  walk_at "rd"
  refine w_ite (fun h => ?_) (fun h => ?_)
  · walk_at "rd"
    refine ⟨p, _, rfl, p1, by omega, fun y H2 c2 p2 l3 l4 => ?_⟩
    walk_at "rd"
    refine ⟨p, _, rfl, p2, by omega, fun x H3 c3 p3 l5 l6 => ?_⟩
    walk_at "rd"
    refine ⟨small _ (by simp), fun t n => ?_⟩
    exact k t _ _ _ (((c1.trans c2).trans c3).trans (.of (same_new n))) (p3.same (same_new n)) (((c1.trans c2).trans c3).fresh p3 n) upd_same (by omega) (by omega) (by omega)
  · walk_at "rd"
    refine ⟨p, _, rfl, p1, by omega, fun x H3 c3 p3 l5 l6 => ?_⟩
    walk_at "rd"
    refine ⟨small _ (by simp), fun t n => ?_⟩
    exact k t _ _ _ ((c1.trans c3).trans (.of (same_new n))) (p3.same (same_new n)) ((c1.trans c3).fresh p3 n) upd_same (by omega) (by omega) (by omega)
def sp_law_lines (Z : Ctx) : Sp := fun vs H Q _ => ∃ p, ∃ z : Int, ∃ w m n : Nat, vs = [.ref p, .int (w : Int), .int (m : Int), .int z, .int 1] ∧ z = (n : Int) ∧ PurseAt H p ∧ 1 ≤ w ∧ w ≤ 1000 ∧ 1 ≤ m ∧ n ≤ 100 ∧
  ∀ D xs (L : List Ln) H', Chg p H H' → PurseAt H' p → H D = none → H' D = some (.lst xs) → All2 (rep (off H' (wth (fun a => a = p) D))) xs L → L.length = n → (∀ x ∈ L, LnP w m x) → Q (.ref D) H'
abbrev r_law_lines (Z : Ctx) : TS := (tSeq (tAsg (tLst tNil) (gName 5)) (tSeq (tFor (iRng1 (tCons (tVar 3) tNil)) (gName 6) (tSeq (tAsg (tCall (sp_law_span Z) [] E0 (tCons (tVar 0) (tCons (tVar 2) tNil))) (gTup Z.K 2 (gCons (gName 7) (gCons (gName 8) gNil)))) (tDrop (tBM Z.K "list" rAppend (tVar 5) (tCons (tTup (tCons (tCall (sp_law_shape Z) [] E0 (tCons (tVar 0) (tCons (tVar 1) (tCons (tVar 4) tNil)))) (tCons (tVar 7) (tCons (tVar 8) tNil)))) tNil))))) (tRet (tVar 5))))
theorem ln_law_lines : sp_law_lines Z vs H Q E → vs.length = 5 := by rintro ⟨_, _, _, _, _, rfl, _⟩; rfl
abbrev nm_law_lines : List Str := ["purse", "width", "moments", "many", "style", "lines", "turn", "first", "last"]
theorem rd_law_lines (h : sp_law_lines Z vs H Q E) : r_law_lines Z (ends Q) (L2.start nm_law_lines vs) H := by
  obtain ⟨p, _, w, m, n, rfl, rfl, hp, hw0, hw, hm, hn, k⟩ := h
  show r_law_lines Z (ends Q) [some (.ref p), some (.int (w : Int)), some (.int (m : Int)), some (.int (n : Int)), some (.int 1), none, none, none, none] H
  unfold r_law_lines ends
  walk_at "rd"
  refine ⟨by decide, fun D nD => ?_⟩
  have npD := hp.ne (H0 := H) nD
  walk_at "rd"
  refine forR (n := n) (fun i σ H' => ∃ xs L e6 e7 e8, σ = [some (.ref p), some (.int (w : Int)), some (.int (m : Int)), some (.int (n : Int)), some (.int 1), some (.ref D), e6, e7, e8] ∧ Chg p H H' ∧ PurseAt H' p ∧ H' D = some (.lst xs) ∧
      All2 (rep (off H' (wth (fun a => a = p) D))) xs L ∧ L.length = i ∧ ∀ x ∈ (L : List Ln), LnP w m x) ⟨[], [], _, _, _, rfl, (Chg.refl H).mut nD, hp.upd npD, upd_same, trivial, rfl, fun x hx => absurd hx (by simp)⟩ ?_ ?_
  · rintro i σ H' hi ⟨xs, L, e6, e7, e8, rfl, c, pu, hD, aD, hl, hL⟩
    have hlen := aD.len
    show tSeq _ _ _ [some (.ref p), some (.int (w : Int)), some (.int (m : Int)), some (.int (n : Int)), some (.int 1), some (.ref D), some (.int (i : Int)), e7, e8] H'
    walk_at "rd"
    refine ⟨p, m, rfl, pu, hm, fun t f l H1 c1 p1 n1 e1 b1 b2 b3 => ?_⟩
    refine w_gtup2 e1 ?_
    show tDrop _ _ [some (.ref p), some (.int (w : Int)), some (.int (m : Int)), some (.int (n : Int)), some (.int 1), some (.ref D), some (.int (i : Int)), some (.int f), some (.int l)] H1
    have hD1 := c1 _ _ npD hD
    walk_at "rd"
    refine ⟨p, w, rfl, p1, hw0, hw, fun q a b H2 c2 p2 n2 e2 a1 a2 a3 => ?_⟩
    have hD2 := c2 _ _ npD hD1
    walk_at "rd"
    refine ⟨small _ (by simp), fun t3 n3 => ?_⟩
    have s3 := same_new (o := .tup [V.ref q, .int f, .int l]) n3
    have e3 : (upd H2 t3 (.tup [V.ref q, .int f, .int l])) t3 = some (.tup [V.ref q, .int f, .int l]) := upd_same
    have e23 := s3 _ _ e2
    have hD3 := s3 _ _ hD2
    have p3 := p2.same s3
    have c3 : Chg p H' (upd H2 t3 (.tup [V.ref q, .int f, .int l])) := (c1.trans c2).trans (.of s3)
    generalize upd H2 t3 (.tup [V.ref q, .int f, .int l]) = H3 at e3 e23 hD3 p3 c3
    walk_at "rd"
    refine w_app hD3 (by omega) ?_
    have nq : H' q = none := c1.fresh p1 n2
    have nt : H' t3 = none := (c1.trans c2).fresh p2 n3
    have out : ∀ {z : Addr}, H' z = none → ¬ wth (fun a => a = p) D z := fun h z => by
      rcases z with z | z
      · exact pu.ne (H0 := H') h z
      · rw [z, hD] at h; cases h
    refine ⟨_, L ++ [⟨plainR w a b, f, l⟩], _, _, _, rfl, (c.trans c3).mut nD, p3.upd npD, upd_same, ?_, by rw [List.length_append, hl]; rfl, fun x hx => ?_⟩
    · rw [off_upd wth_l]
      exact (all2_mono (c3.off (M := wth (fun a => a = p) D) (.inl rfl)) aD).snoc ⟨t3, q, rfl, off_in (out nt) e3, off_in (out nq) e23⟩
    · rcases List.mem_append.mp hx with z | z
      · exact hL x z
      · rw [List.mem_singleton.mp z]
        exact ⟨a, b, a1, a2, a3, rfl, b1, b2, b3⟩
  · rintro σ H' ⟨xs, L, e6, e7, e8, rfl, c, pu, hD, aD, hl, hL⟩
    walk_at "rd"
    exact k D xs L H' c pu nD hD aD hl hL
end
end G
end
section
set_option Elab.async false
set_option linter.all false
set_option maxRecDepth 100000
namespace G
open PySem L2 PyProof.Rows
local macro_rules | `(tactic| walk_at "rd") => `(tactic| repeat (first
  | (with_reducible refine v_seq ?_)
  | (with_reducible refine v_asg ?_)
  | (with_reducible refine w_cons ?_)
  | (with_reducible refine w_nil ?_)
  | (with_reducible refine w_op ?_)
  | (with_reducible refine w_c ?_)
  | (with_reducible refine w_I0 ?_)
  | (with_reducible refine w_cb ?_)
  | (with_reducible refine w_call ?_)
  | (with_reducible refine v_ret ?_)
  | (with_reducible refine v_next ?_)
  | (with_reducible refine w_ixR (by assumption) (by assumption) ?_)
  | (with_reducible refine w_ix (by assumption) (by assumption) ?_)
  | (with_reducible refine w_test ?_)
  | (with_reducible refine w_tB ?_)
  | (with_reducible refine w_and ?_)
  | (with_reducible refine w_or ?_)
  | (with_reducible refine w_not ?_)
  | (with_reducible refine w_ifE ?_)
  | (with_reducible refine v_ifS ?_)
  | (with_reducible refine w_tt ?_)
  | (with_reducible refine w_ff ?_)
  | (with_reducible refine w_eqI ?_)
  | (with_reducible refine w_neI ?_)
  | (with_reducible refine w_U ?_)
  | (with_reducible refine w_un ?_)
  | (with_reducible refine w_len (by assumption) ?_)
  | (with_reducible refine w_abs ?_)
  | (with_reducible refine w_int ?_)
  | (with_reducible refine w_isN0 ?_)
  | (with_reducible refine w_isN1 (by assumption) ?_)
  | (with_reducible refine w_isN1 ne_in ?_)
  | (with_reducible refine w_isN1 ne_rn ?_)
  | (with_reducible refine w_notN0 ?_)
  | (with_reducible refine w_notN1 ne_in ?_)
  | (with_reducible refine w_notN1 ne_rn ?_)
  | (with_reducible refine v_lst ?_)
  | (with_reducible refine v_tup ?_)
  | (with_reducible refine w_notN1 (by assumption) ?_)
  | (with_reducible refine v_drop ?_)
  | (with_reducible refine w_bm ?_)
  | (with_reducible refine v_for ?_)
  | (with_reducible refine v_rng1 ?_)
  | (with_reducible refine v_rng2 ?_)
  | (with_reducible refine v_list ?_)
  | (with_reducible refine w_sub ?_)
  | (with_reducible refine v_ip ?_)
  | (with_reducible refine v_augS ?_)
  | (with_reducible refine v_retN ?_)
  | (with_reducible refine w_yes ?_)
  | (with_reducible refine tv_0 ?_)
  | (with_reducible refine nv_0 ?_)
  | (with_reducible refine av_0 ?_)
  | (with_reducible refine tv_1 ?_)
  | (with_reducible refine nv_1 ?_)
  | (with_reducible refine av_1 ?_)
  | (with_reducible refine tv_2 ?_)
  | (with_reducible refine nv_2 ?_)
  | (with_reducible refine av_2 ?_)
  | (with_reducible refine tv_3 ?_)
  | (with_reducible refine nv_3 ?_)
  | (with_reducible refine av_3 ?_)
  | (with_reducible refine tv_4 ?_)
  | (with_reducible refine nv_4 ?_)
  | (with_reducible refine av_4 ?_)
  | (with_reducible refine tv_5 ?_)
  | (with_reducible refine nv_5 ?_)
  | (with_reducible refine av_5 ?_)
  | (with_reducible refine tv_6 ?_)
  | (with_reducible refine nv_6 ?_)
  | (with_reducible refine av_6 ?_)
  | (with_reducible refine tv_7 ?_)
  | (with_reducible refine nv_7 ?_)
  | (with_reducible refine av_7 ?_)
  | (with_reducible refine tv_8 ?_)
  | (with_reducible refine nv_8 ?_)
  | (with_reducible refine av_8 ?_)
  | (with_reducible refine tv_9 ?_)
  | (with_reducible refine nv_9 ?_)
  | (with_reducible refine av_9 ?_)
  | (with_reducible refine tv_10 ?_)
  | (with_reducible refine nv_10 ?_)
  | (with_reducible refine av_10 ?_)
  | (with_reducible refine tv_11 ?_)
  | (with_reducible refine nv_11 ?_)
  | (with_reducible refine av_11 ?_)
  | (with_reducible refine tv_12 ?_)
  | (with_reducible refine nv_12 ?_)
  | (with_reducible refine av_12 ?_)
  | (with_reducible refine tv_13 ?_)
  | (with_reducible refine nv_13 ?_)
  | (with_reducible refine av_13 ?_)
  | (with_reducible refine tv_14 ?_)
  | (with_reducible refine nv_14 ?_)
  | (with_reducible refine av_14 ?_)
  | (with_reducible refine tv_15 ?_)
  | (with_reducible refine nv_15 ?_)
  | (with_reducible refine av_15 ?_)
  | (with_reducible refine tv_16 ?_)
  | (with_reducible refine nv_16 ?_)
  | (with_reducible refine av_16 ?_)
  | (with_reducible refine tv_17 ?_)
  | (with_reducible refine nv_17 ?_)
  | (with_reducible refine av_17 ?_)
  | (with_reducible refine tv_18 ?_)
  | (with_reducible refine nv_18 ?_)
  | (with_reducible refine av_18 ?_)
  | (with_reducible refine tv_19 ?_)
  | (with_reducible refine nv_19 ?_)
  | (with_reducible refine av_19 ?_)
  | (with_reducible refine tv_20 ?_)
  | (with_reducible refine nv_20 ?_)
  | (with_reducible refine av_20 ?_)
  | (with_reducible refine tv_21 ?_)
  | (with_reducible refine nv_21 ?_)
  | (with_reducible refine av_21 ?_)
  | (with_reducible refine tv_22 ?_)
  | (with_reducible refine nv_22 ?_)
  | (with_reducible refine av_22 ?_)
  | (with_reducible refine tv_23 ?_)
  | (with_reducible refine nv_23 ?_)
  | (with_reducible refine av_23 ?_)
  | (with_reducible refine tv_24 ?_)
  | (with_reducible refine nv_24 ?_)
  | (with_reducible refine av_24 ?_)
  | (with_reducible refine tv_25 ?_)
  | (with_reducible refine nv_25 ?_)
  | (with_reducible refine av_25 ?_)
  | (with_reducible refine ⟨_, rfl, ⟨_, SqL.of (by assumption)⟩, ?_⟩)
  | (with_reducible refine ⟨_, rfl, (by omega), (by omega), ?_⟩)
  | (with_reducible refine ⟨w_tyL (by assumption), ?_⟩)
  | (with_reducible refine w_isiII ?_)
  | (with_reducible refine w_isiIB ?_)
  | (with_reducible refine w_isiBB ?_)
  | (with_reducible refine w_isiBI ?_)
  | (with_reducible refine w_isiNL ?_)
  | (with_reducible refine w_isiLL (by assumption) ?_)
  | (with_reducible refine v_sl ?_)
  | (with_reducible refine w_nff ?_)
  | (with_reducible refine w_ntt ?_)
  | (with_reducible refine v_chain ?_)
  | (with_reducible refine v_andV ?_)
  | (with_reducible refine v_orV ?_)
  | (with_reducible refine v_chain3 ?_)
  | (with_reducible refine w_min2 ?_)
  | (with_reducible refine v_lstRg ?_)
  | (with_reducible refine w_in (by assumption) ?_)
  | (with_reducible refine w_nin (by assumption) ?_)
  | (with_reducible refine v_notV ?_)
  | (with_reducible refine v_noP ?_)
  | (with_reducible refine v_part ?_)
  | (with_reducible refine v_fld ?_)
  | (with_reducible refine v_sfld ?_)
  | (with_reducible refine ⟨_, (rfl : V.bl _ = V.bl _), ?_⟩)
  | (with_reducible refine ⟨_, (rfl : V.ref _ = V.ref _), ?_⟩)
  | (with_reducible refine ⟨_, (rfl : [V.int _] = [V.int _]), ?_⟩)
  | (with_reducible refine ⟨_, (rfl : V.int _ = V.int _), ?_⟩)
  | (with_reducible refine ⟨⟨_, SqL.of (by assumption)⟩, ?_⟩)
  | (with_reducible refine ⟨(by (first | omega | (rw [lenV]; omega)) : -(2 ^ 62) ≤ _), (by first | omega | (rw [lenV]; omega)), ?_⟩)
  | (with_reducible refine v_meth ?_)
  | (with_reducible refine v_make ?_)
  | (with_reducible refine w_neBB ?_)
  | (with_reducible refine w_eqBB ?_)
  | (with_reducible refine w_isiRI (by assumption) ?_)
  ))
section
variable {σ : L2.St} {H : Hp} {Q : VK} {K : PySem.W.Frag} {wi : TI} {te : TE} {vs : List Nat} {j : Nat}
/-- [e for i in range(lo, ..)] -/
theorem lcR2 {β : Type} [Rep β] {lo : Int} {n : Nat} (hi : ∀ R : It → Hp → Prop, R (Itr lo n) H → wi σ H R) (M : Addr → Prop) (f : Nat → β) (hz : n ≤ 1000000) (hM : ∀ a, M a → dom H a) (hw : ∀ x, wipe ((wipe σ vs).set j (some x)) vs = wipe σ vs)
    (he : ∀ (i : Nat) H1 M1, i < n → Same H H1 → Same (off H M) (off H1 M1) → (∀ a, M1 a → dom H1 a) → ∀ R : VK, (∀ v H2, Same H1 H2 → rep (off H2 M1) v (f i) → R v H2) → te ((wipe σ vs).set j (some (.int (lo + (i : Int))))) H1 R)
    (hd : NewL M H ((List.range n).map f) Q) : tLc wi (gName j) tYes te vs σ H Q := v_lc (hi _ fun D hD =>
  lc_range (lo := lo) (n := n) (Lcw H M f D) (.start hD) (fun i H1 hi L => by
    refine ⟨hw _, ?_⟩
    refine w_yes ?_
    refine iteT ?_
    refine he i H1 (wth M D) hi L.s L.off (fun a h => ?_) _ fun v H2 s r => L.snoc (by omega) s r
    rcases h with h | h
    · exact dom_same L.s (hM a h)
    · obtain ⟨xs, e, _⟩ := L.l
      exact h ▸ dom_of e) fun H' L => by
    obtain ⟨xs, e, a⟩ := L.l
    exact hd D xs H' L.s L.n e a)
end
theorem mat_rep {H : Hp} {m : Mat} {D : Addr} {xs : List V} {M : Addr → Prop} (e : H D = some (.lst xs)) (a : All2 (rep (off H M)) xs m) : rep H (.ref D) m := ⟨D, xs, rfl, e, all2_mono off_same a⟩
/-! ### all sums -/
def stepA (found : Mat) (c : Int × Int) : Mat := found.flatMap fun one => (List.range (c.2 - c.1 + 1).toNat).map fun (k : Nat) => one ++ [c.1 + (k : Int)]
def allA (lims : List (Int × Int)) : Mat := lims.foldl stepA [[]]
theorem stepA_len {found : Mat} {c : Int × Int} (h : c.2 - c.1 ≤ 3) : (stepA found c).length ≤ 4 * found.length := by
  unfold stepA
  induction found with
  | nil => simp
  | cons x l ih =>
    rw [List.flatMap_cons, List.length_append, List.length_map, List.length_range, List.length_cons]
    omega
theorem allA_take {lims : List (Int × Int)} {i : Nat} {c : Int × Int} (h : lims[i]? = some c) : allA (lims.take (i + 1)) = stepA (allA (lims.take i)) c := by
  have hi := (List.getElem?_eq_some_iff.mp h).1
  have e : lims.take (i + 1) = lims.take i ++ [c] := by
    rw [List.take_succ, h]
    rfl
  unfold allA
  rw [e, List.foldl_append]
  rfl
theorem allA_len {lims : List (Int × Int)} (h : ∀ c ∈ lims, c.2 - c.1 ≤ 3) : ∀ i, i ≤ lims.length → (allA (lims.take i)).length ≤ 4 ^ i ∧ ∀ r ∈ allA (lims.take i), r.length = i
  | 0, _ => ⟨by simp [allA], fun r hr => by
      have : r = [] := by simpa [allA] using hr
      rw [this]; rfl⟩
  | i + 1, hi => by
    obtain ⟨h1, h2⟩ := allA_len h i (by omega)
    have e := List.getElem?_eq_getElem (l := lims) (i := i) (by omega)
    rw [allA_take e]
    refine ⟨?_, fun r hr => ?_⟩
    · have := stepA_len (found := allA (lims.take i)) (h _ (List.getElem_mem (by omega : i < lims.length)))
      rw [Nat.pow_succ]
      omega
    · obtain ⟨one, ho, hr⟩ := List.mem_flatMap.mp hr
      obtain ⟨k, _, rfl⟩ := List.mem_map.mp hr
      rw [List.length_append, h2 one ho]
      rfl
/-! ### what amounts bring -/
def ledF (w : Nat) (L : List Ln) (amts : Row) : Nat → Row
  | 0 => zr w
  | n + 1 => less (ledF w L amts n) (-(at0 amts n)) ((L.getD n ⟨[], 0, 0⟩).sh)
theorem ledF_length {w : Nat} {L : List Ln} {amts : Row} : ∀ n, (ledF w L amts n).length = w
  | 0 => zr_length
  | n + 1 => by unfold ledF; rw [less_length, ledF_length n]
def Tot (row books : Row) : Int := (books.map fun b => at0 row (b.toNat - 1)).sum
/-- a world of lines alone -/
def WorldAt (H : Hp) (v : V) (w m : Nat) (L : List Ln) : Prop := ∃ l s q d k, v = .ref l ∧ H l = some (.lst [.int (w : Int), .int (m : Int), .ref s, .ref q, .ref d, .ref k]) ∧ H s = some (.lst ((zr w).map V.int)) ∧ rep H (.ref q) L ∧ H d = some (.lst []) ∧ H k = some (.lst [])
theorem WorldAt.mono {H H' : Hp} {v : V} {w m : Nat} {L : List Ln} (h : WorldAt H v w m L) (s : Same H H') : WorldAt H' v w m L := by
  obtain ⟨l, a, q, d, k, e, h1, h2, h3, h4, h5⟩ := h
  exact ⟨l, a, q, d, k, e, s _ _ h1, s _ _ h2, Rep.mono s h3, s _ _ h4, s _ _ h5⟩
section
variable {Z : Ctx} {vs : List V} {H : Hp} {Q : VK} {E : XK}
def sp_law_plan (Z : Ctx) : Sp := fun vs H Q _ => ∃ v, ∃ w m : Nat, ∃ L : List Ln, vs = [v] ∧ WorldAt H v w m L ∧ PlanOk w m (zr w) L [] [] ∧ ∀ x H', Same H H' → H x = none → (∀ N : Addr → Prop, (∀ a, N a → dom H a) → PlanAt Z (off H' N) (.ref x) w m (zr w) L [] []) → Q (.ref x) H'
abbrev r_law_plan (Z : Ctx) : TS := (tRet (tMake (Z.cls "Plan") (sp_Plan___init__ Z) [] E0 (tCons (tOp (rIxG Z.K) (tVar 0) (tC (.int 0))) (tCons (tOp (rIxG Z.K) (tVar 0) (tC (.int 1))) (tCons (tCB (rLstG Z.K) (tCons (tOp (rIxG Z.K) (tVar 0) (tC (.int 2))) tNil)) (tCons (tCB (rLstG Z.K) (tCons (tOp (rIxG Z.K) (tVar 0) (tC (.int 3))) tNil)) (tCons (tCB (rLstG Z.K) (tCons (tOp (rIxG Z.K) (tVar 0) (tC (.int 4))) tNil)) (tCons (tCB (rLstG Z.K) (tCons (tOp (rIxG Z.K) (tVar 0) (tC (.int 5))) tNil)) tNil))))))))
theorem ln_law_plan : sp_law_plan Z vs H Q E → vs.length = 1 := by rintro ⟨_, _, _, _, rfl, _⟩; rfl
abbrev nm_law_plan : List Str := ["world"]
theorem rd_law_plan (h : sp_law_plan Z vs H Q E) : r_law_plan Z (ends Q) (L2.start nm_law_plan vs) H := by
  obtain ⟨v, w, m, L, rfl, ⟨l, s, q, d, k, rfl, h1, h2, ⟨_, xs, e, h3, a3⟩, h4, h5⟩, ok, kk⟩ := h
  cases e
  show r_law_plan Z (ends Q) [some (.ref l)] H
  unfold r_law_plan ends
  walk_at "rd"
  refine w_ixAt 0 0 rfl h1 rfl ?_
  walk_at "rd"
  refine w_ixAt 1 1 rfl h1 rfl ?_
  walk_at "rd"
  refine w_ixAt 2 2 rfl h1 rfl ?_
  walk_at "rd"
  refine w_lst h2 fun c1 n1 => ?_
  have s1 := same_new (o := .lst ((zr w).map V.int)) n1
  have e1 : (upd H c1 (.lst ((zr w).map V.int))) c1 = some (.lst ((zr w).map V.int)) := upd_same
  generalize upd H c1 (.lst ((zr w).map V.int)) = H1 at s1 e1
  walk_at "rd"
  refine w_ixAt 3 3 rfl (s1 _ _ h1) rfl ?_
  walk_at "rd"
  refine w_lst (s1 _ _ h3) fun c2 n2 => ?_
  have s2 := same_new (o := .lst xs) n2
  have e2 : (upd H1 c2 (.lst xs)) c2 = some (.lst xs) := upd_same
  generalize upd H1 c2 (.lst xs) = H2 at s2 e2
  have s02 := s1.trans s2
  walk_at "rd"
  refine w_ixAt 4 4 rfl (s02 _ _ h1) rfl ?_
  walk_at "rd"
  refine w_lst (s02 _ _ h4) fun c3 n3 => ?_
  have s3 := same_new (o := .lst []) n3
  have e3 : (upd H2 c3 (.lst [])) c3 = some (.lst []) := upd_same
  generalize upd H2 c3 (.lst []) = H3 at s3 e3
  have s03 := s02.trans s3
  walk_at "rd"
  refine w_ixAt 5 5 rfl (s03 _ _ h1) rfl ?_
  walk_at "rd"
  refine w_lst (s03 _ _ h5) fun c4 n4 => ?_
  have s4 := same_new (o := .lst []) n4
  have e4 : (upd H3 c4 (.lst [])) c4 = some (.lst []) := upd_same
  generalize upd H3 c4 (.lst []) = H4 at s4 e4
  have s04 := s03.trans s4
  walk_at "rd"
  intro x dx nx ndx nd
  refine make_plan nx ndx nd rfl rfl ⟨rep_row_of ((s2.trans (s3.trans s4)) _ _ e1), ⟨c2, xs, rfl, (s3.trans s4) _ _ e2, all2_mono s04 a3⟩, show rep H4 (.ref c3) ([] : List Ln) from ⟨c3, [], rfl, s4 _ _ e3, trivial⟩, show rep H4 (.ref c4) ([] : List Lk) from ⟨c4, [], rfl, e4, trivial⟩⟩ ok fun H5 s5 P => ⟨rfl, ?_⟩
  exact kk x H5 (s04.trans s5) (s04.free nx) fun N hN => P N fun a z => dom_same s04 (hN a z)
def sp_law_all_sums (Z : Ctx) : Sp := fun vs H Q _ => ∃ v, ∃ lims : List (Int × Int), vs = [v] ∧ rep H v lims ∧ lims.length ≤ 4 ∧ (∀ c ∈ lims, -1000 ≤ c.1 ∧ c.1 ≤ c.2 ∧ c.2 - c.1 ≤ 3 ∧ c.2 ≤ 1000) ∧ ∀ w H', Same H H' → rep H' w (allA lims) → Q w H'
abbrev r_law_all_sums (Z : Ctx) : TS := (tSeq (tAsg (tLst (tCons (tLst tNil) tNil)) (gName 1)) (tSeq (tFor (iList Z.K (tVar 0)) (gTup Z.K 2 (gCons (gName 2) (gCons (gName 3) gNil))) (tSeq (tAsg (tLst tNil) (gName 4)) (tSeq (tFor (iList Z.K (tVar 1)) (gName 5) (tAsg (tOp rCat (tVar 4) (tLc (iRng2 (tCons (tVar 2) (tCons (tOp rAddI (tVar 3) (tC (.int 1))) tNil))) (gName 6) tYes (tOp rCat (tVar 5) (tLst (tCons (tVar 6) tNil))) [6])) (gName 4))) (tAsg (tVar 4) (gName 1))))) (tRet (tVar 1))))
theorem ln_law_all_sums : sp_law_all_sums Z vs H Q E → vs.length = 1 := by rintro ⟨_, _, rfl, _⟩; rfl
abbrev nm_law_all_sums : List Str := ["limits", "found", "least", "most", "longer", "one", "whole"]
theorem rd_law_all_sums (h : sp_law_all_sums Z vs H Q E) : r_law_all_sums Z (ends Q) (L2.start nm_law_all_sums vs) H := by
  obtain ⟨v, lims, rfl, ⟨l, xs, rfl, hl, ha⟩, hz, hb, k⟩ := h
  have hlen := ha.len
  have hA := allA_len (lims := lims) fun c hc => (hb c hc).2.2.1
  show r_law_all_sums Z (ends Q) [some (.ref l), none, none, none, none, none, none] H
  unfold r_law_all_sums ends
  walk_at "rd"
  refine ⟨by decide, fun l1 n1 => ?_⟩
  have s1 := same_new (o := .lst []) n1
  have e1 : (upd H l1 (.lst [])) l1 = some (.lst []) := upd_same
  generalize upd H l1 (.lst []) = H1 at s1 e1
  walk_at "rd"
  refine ⟨small _ (by simp), fun l2 n2 => ?_⟩
  have s2 := same_new (o := .lst [V.ref l1]) n2
  have e2 : (upd H1 l2 (.lst [V.ref l1])) l2 = some (.lst [V.ref l1]) := upd_same
  have e12 := s2 _ _ e1
  generalize upd H1 l2 (.lst [V.ref l1]) = H2 at s2 e2 e12
  have s02 := s1.trans s2
  have hl2 := s02 _ _ hl
  walk_at "rd"
  refine forL (xs := xs) (fun i σ H' => ∃ f e2 e3 e4 e5 e6, σ = [some (.ref l), some f, e2, e3, e4, e5, e6] ∧ Same H2 H' ∧ rep H' f (allA (lims.take i))) ⟨_, _, _, _, _, _, rfl, .refl _, l2, _, rfl, e2, rep_row_of (r := []) e12, trivial⟩ (fun i σ H' _ ⟨_, _, _, _, _, _, _, s, _⟩ => SqL.of (s _ _ hl2)) ?_ ?_
  · rintro i x σ H' hi ⟨f, e2, e3, e4, e5, e6, rfl, s, hf⟩
    obtain ⟨c, g1, g2, ⟨t, y1, y2, rfl, g3, g4, g5⟩⟩ := l_at ha hi
    obtain rfl : y1 = .int c.1 := g4
    obtain rfl : y2 = .int c.2 := g5
    obtain ⟨b1, b2, b3, b4⟩ := hb c g2
    have hi2 := (List.getElem?_eq_some_iff.mp g1).1
    obtain ⟨A1, A2⟩ := hA i (by omega)
    refine w_gtup2 ((s02.trans s) _ _ g3) ?_
    have p4 : 4 ^ i ≤ 4 ^ 4 := Nat.pow_le_pow_right (by decide) (by omega)
    have p4' : 4 ^ 4 = 256 := by decide
    rw [allA_take g1]
    generalize allA (lims.take i) = F at hf A1 A2
    obtain ⟨fl, fx, rfl, hfl, hfa⟩ := hf
    have flen := hfa.len
    show tSeq _ _ _ [some (.ref l), some (.ref fl), some (.int c.1), some (.int c.2), e4, e5, e6] H'
    walk_at "rd"
    refine ⟨by decide, fun D nD => ?_⟩
    have sD := same_new (o := .lst []) nD
    have eD : (upd H' D (.lst [])) D = some (.lst []) := upd_same
    generalize upd H' D (.lst []) = H3 at sD eD
    have hfl3 := sD _ _ hfl
    walk_at "rd"
    refine forL (xs := fx) (fun j σ H'' => ∃ g e5 e6, σ = [some (.ref l), some (.ref fl), some (.int c.1), some (.int c.2), some g, e5, e6] ∧ Same H3 H'' ∧ rep H'' g (stepA (F.take j) c)) ⟨_, _, _, rfl, .refl _, D, [], rfl, eD, trivial⟩ (fun j σ H'' _ ⟨_, _, _, _, s, _⟩ => SqL.of (s _ _ hfl3)) ?_ ?_
    · rintro j x σ H'' hj ⟨g, e5, e6, rfl, s3, hg⟩
      have hj2 := (List.getElem?_eq_some_iff.mp hj).1
      obtain ⟨q, h1, h2⟩ := mat_at hfa (i := j) (by omega)
      rw [h1] at hj
      cases hj
      have h3 := s3 _ _ (sD _ _ h2)
      obtain ⟨gl, gx, rfl, hgl, hga⟩ := hg
      have glen := hga.len
      have st := stepA_len (found := F.take j) (c := c) b3
      rw [List.length_take] at st
      have estep : stepA (F.take (j + 1)) c = stepA (F.take j) c ++ (List.range (c.2 - c.1 + 1).toNat).map fun (k : Nat) => F.getD j [] ++ [c.1 + (k : Int)] := by
        unfold stepA
        rw [List.take_succ, List.flatMap_append]
        have : F[j]? = some (F.getD j []) := by
          rw [List.getD_eq_getElem?_getD, List.getElem?_eq_getElem (by omega)]
          rfl
        rw [this]
        simp
      have rl : (F.getD j []).length ≤ 1000 := by rw [A2 _ (getD_mem (by omega))]; omega
      show tAsg _ _ _ [some (.ref l), some (.ref fl), some (.int c.1), some (.int c.2), some (.ref gl), some (.ref q), e6] H''
      walk_at "rd"
      refine lcR2 (β := Row) (lo := c.1) (n := (c.2 - c.1 + 1).toNat) (fun R h => ?_) (dom H'') (fun k => F.getD j [] ++ [c.1 + (k : Int)]) (by omega) (fun _ h => h) (fun _ => rfl) (fun i2 H4 M1 hi s4 so dm R k4 => ?_) ?_
      · walk_at "rd"
        refine ⟨c.1, c.2 + 1, rfl, ⟨by omega, by omega, by omega, by omega⟩, ?_⟩
        have : (c.2 + 1 - c.1).toNat = (c.2 - c.1 + 1).toNat := by omega
        rw [this]
        exact h
      · have h4 := s4 _ _ h3
        show tOp _ _ _ [some (.ref l), some (.ref fl), some (.int c.1), some (.int c.2), some (.ref gl), some (.ref q), some (.int (c.1 + (i2 : Int)))] H4 R
        walk_at "rd"
        refine ⟨small _ (by simp), fun l5 n5 => ?_⟩
        have s5 := same_new (o := .lst [V.int (c.1 + (i2 : Int))]) n5
        have e5 : (upd H4 l5 (.lst [V.int (c.1 + (i2 : Int))])) l5 = some (.lst [V.int (c.1 + (i2 : Int))]) := upd_same
        generalize upd H4 l5 (.lst [V.int (c.1 + (i2 : Int))]) = H5 at s5 e5
        refine w_cat (s5 _ _ h4) e5 (by rw [lenV]; show (F.getD j []).length + 1 ≤ _; omega) fun l6 n6 => ?_
        have s6 := same_new (o := .lst ((F.getD j []).map V.int ++ [V.int (c.1 + (i2 : Int))])) n6
        refine k4 _ _ (s5.trans s6) (rep_row_of (off_in (fun z => dm _ z (s5.free n6)) ?_))
        rw [List.map_append]
        exact upd_same
      · intro D5 x5 H5 s5 n5 e5' a5
        have l5 := a5.len
        rw [List.length_map, List.length_range] at l5
        refine w_cat (s5 _ _ hgl) e5' (by omega) fun l6 n6 => ?_
        have s6 := same_new (o := .lst (gx ++ x5)) n6
        walk_at "rd"
        refine ⟨_, _, _, rfl, s3.trans (s5.trans s6), ?_⟩
        rw [estep]
        exact ⟨l6, gx ++ x5, rfl, upd_same, (all2_mono (s5.trans s6) hga).app (all2_mono (off_same.trans s6) a5)⟩
    · rintro σ H'' ⟨g, e5, e6, rfl, s3, hg⟩
      rw [flen, List.take_length] at hg
      walk_at "rd"
      exact ⟨_, _, _, _, _, _, rfl, s.trans (sD.trans s3), hg⟩
  · rintro σ H' ⟨f, e2, e3, e4, e5, e6, rfl, s, hf⟩
    rw [hlen, List.take_length] at hf
    walk_at "rd"
    exact k f H' (s02.trans s) hf
def sp_law_ledger (Z : Ctx) : Sp := fun vs H Q _ => ∃ v u, ∃ w m : Nat, ∃ L : List Ln, ∃ amts : Row, vs = [v, u] ∧ WorldAt H v w m L ∧ rep H u amts ∧ amts.length = L.length ∧ w ≤ 1000 ∧ L.length ≤ 1000 ∧ (∀ x ∈ L, x.sh.length = w ∧ ∀ y ∈ x.sh, -1 ≤ y ∧ y ≤ 1) ∧ NewR H (ledF w L amts L.length) Q
abbrev r_law_ledger (Z : Ctx) : TS := (tSeq (tAsg (tOp rRep (tLst (tCons (tC (.int 0)) tNil)) (tOp (rIxG Z.K) (tVar 0) (tC (.int 0)))) (gName 2)) (tSeq (tFor (iRng1 (tCons (tCB (rLenG Z.K) (tCons (tVar 1) tNil)) tNil)) (gName 3) (tAsg (tCall (sp_law_less Z) [] E0 (tCons (tVar 2) (tCons (tUn uNegI (tOp (rIxG Z.K) (tVar 1) (tVar 3))) (tCons (tOp (rIxGT Z.K) (tOp (rIxG Z.K) (tOp (rIxG Z.K) (tVar 0) (tC (.int 3))) (tVar 3)) (tC (.int 0))) tNil)))) (gName 2))) (tRet (tVar 2))))
theorem ln_law_ledger : sp_law_ledger Z vs H Q E → vs.length = 2 := by rintro ⟨_, _, _, _, _, _, rfl, _⟩; rfl
abbrev nm_law_ledger : List Str := ["world", "amounts", "row", "line"]
theorem rd_law_ledger (h : sp_law_ledger Z vs H Q E) : r_law_ledger Z (ends Q) (L2.start nm_law_ledger vs) H := by
  obtain ⟨v, u, w, m, L, amts, rfl, ⟨l, s, q, d, kk, rfl, h1, h2, ⟨_, xs, e, h3, a3⟩, h4, h5⟩, hu, hal, hw, hL, hb, k⟩ := h
  cases e
  have hlen := a3.len
  obtain ⟨p, rfl, hp⟩ := rep_row.mp hu
  show r_law_ledger Z (ends Q) [some (.ref l), some (.ref p), none, none] H
  unfold r_law_ledger ends
  walk_at "rd"
  refine ⟨by decide, fun l1 n1 => ?_⟩
  have s1 := same_new (o := .lst [V.int 0]) n1
  have e1 : (upd H l1 (.lst [V.int 0])) l1 = some (.lst [V.int 0]) := upd_same
  generalize upd H l1 (.lst [V.int 0]) = H1 at s1 e1
  walk_at "rd"
  refine w_ixAt 0 0 rfl (s1 _ _ h1) rfl ?_
  refine w_rep e1 (by omega) fun l2 n2 => ?_
  have s2 := same_new (o := .lst ((List.replicate w (0 : Int)).map V.int)) n2
  have e2 : (upd H1 l2 (.lst ((List.replicate w (0 : Int)).map V.int))) l2 = some (.lst ((zr w).map V.int)) := upd_same
  generalize upd H1 l2 (.lst ((List.replicate w (0 : Int)).map V.int)) = H2 at s2 e2
  have s02 := s1.trans s2
  have hp2 := s02 _ _ hp
  walk_at "rd"
  refine forR (n := (amts.map V.int).length) (fun i σ H' => ∃ r e3, σ = [some (.ref l), some (.ref p), some (.ref r), e3] ∧ Same H H' ∧ H r = none ∧ H' r = some (.lst ((ledF w L amts i).map V.int))) ⟨_, _, rfl, s02, s1.free n2, e2⟩ ?_ ?_
  · rintro i σ H' hi ⟨r, e3, rfl, s', nr, er⟩
    rw [lenV] at hi
    have hp' := s' _ _ hp
    have h1' := s' _ _ h1
    have h3' := s' _ _ h3
    obtain ⟨x, y, g1, g2, g3, ⟨t, sh, rfl, g4, g5⟩⟩ := l_to a3 (i := i) (by omega)
    have g4 := s' _ _ g4
    have g5 := s' _ _ g5
    have ea := at0_get (r := amts) (i := i) hi
    obtain ⟨y1, y2⟩ := hb y g3
    show tAsg _ _ _ [some (.ref l), some (.ref p), some (.ref r), some (.int (i : Int))] H'
    walk_at "rd"
    refine w_ixAt 3 3 rfl h1' rfl ?_
    walk_at "rd"
    refine w_ixTat 0 0 rfl g4 rfl ?_
    walk_at "rd"
    refine ⟨.ref r, -(at0 amts i), .ref sh, ledF w L amts i, y.sh, rfl, rep_row_of er, rep_row_of g5, by rw [ledF_length, y1], by rw [ledF_length]; omega, fun j => .r ?_, fun r2 H3 s3 n3 e3' => ?_⟩
    · have e64 : (2 : Nat) ^ 64 = 18446744073709551616 := by decide
      unfold Bd
      by_cases hj : j < y.sh.length
      · have := y2 _ (List.mem_of_getElem? (at0_get hj))
        omega
      · rw [at0_out (by omega)]
        decide
    · walk_at "rd"
      refine ⟨_, _, rfl, s'.trans s3, s'.free n3, ?_⟩
      show H3 r2 = some (.lst ((less (ledF w L amts i) (-(at0 amts i)) ((L.getD i ⟨[], 0, 0⟩).sh)).map V.int))
      rw [List.getD_eq_getElem?_getD, g2]
      exact e3'
  · rintro σ H' ⟨r, e3, rfl, s', nr, er⟩
    rw [lenV, hal] at er
    walk_at "rd"
    exact k r H' s' nr er
def sp_law_total (Z : Ctx) : Sp := fun vs H Q _ => ∃ v u, ∃ row books : Row, vs = [v, u] ∧ rep H v row ∧ rep H u books ∧ books.length ≤ 1000 ∧ (∀ b ∈ books, 1 ≤ b ∧ b ≤ (row.length : Int)) ∧ ∀ H', Same H H' → Q (.int (Tot row books)) H'
abbrev r_law_total (Z : Ctx) : TS := (tRet (tCB (rSum Z.K) (tCons (tLc (iList Z.K (tVar 1)) (gName 2) tYes (tOp (rIxG Z.K) (tVar 0) (tOp rSubI (tVar 2) (tC (.int 1)))) [2]) tNil)))
theorem ln_law_total : sp_law_total Z vs H Q E → vs.length = 2 := by rintro ⟨_, _, _, _, rfl, _⟩; rfl
abbrev nm_law_total : List Str := ["row", "books", "book"]
theorem rd_law_total (h : sp_law_total Z vs H Q E) : r_law_total Z (ends Q) (L2.start nm_law_total vs) H := by
  obtain ⟨v, u, row, books, rfl, hv, hu, hz, hb, k⟩ := h
  obtain ⟨p, rfl, hp⟩ := rep_row.mp hv
  obtain ⟨q, rfl, hq⟩ := rep_row.mp hu
  show r_law_total Z (ends Q) [some (.ref p), some (.ref q), none] H
  unfold r_law_total ends
  walk_at "rd"
  refine lcLrT (xs := books.map V.int) (fun R h => by walk_at "rd"; exact h) (fun j => at0 row ((at0 books j).toNat - 1)) (SqL.of hq) (by rw [lenV]; omega) (fun _ => rfl) (fun j x H1 hj s1 R k1 => ?_) ?_
  · obtain ⟨z, hz, rfl⟩ := row_at hj
    have hb2 := hb z (List.mem_of_getElem? hz)
    obtain rfl := at0_some hz
    have h1 := s1 _ _ hp
    have h2 := at0_get (r := row) (i := (at0 books j).toNat - 1) (by omega)
    show tOp _ _ _ [some (.ref p), some (.ref q), some (.int (at0 books j))] H1 R
    walk_at "rd"
    refine w_ixAt ((at0 books j).toNat - 1) _ (by omega) h1 (show _ = some (V.int (at0 row ((at0 books j).toNat - 1))) by rw [List.getElem?_map, h2]; rfl) ?_
    exact k1 _ (.refl _)
  · rw [map_at0 books fun b => at0 row (b.toNat - 1)]
    intro l H1 s1 n1 e1
    walk_at "rd"
    exact w_sum e1 (k _ s1)
/-- the two ends of a plain shape -/
theorem rd_ends {v : V} {w a b : Nat} (hv : rep H v (plainR w a b)) : ∃ p, v = .ref p ∧ H p = some (.lst ((plainR w a b).map V.int)) := rep_row.mp hv
def spEnds : Sp := fun vs H Q _ => ∃ v, ∃ w a b : Nat, vs = [v] ∧ rep H v (plainR w a b) ∧ a ≤ w ∧ b ≤ w ∧ a ≠ b ∧ w ≤ 1000 ∧ ∀ t H', Same H H' → H t = none → H' t = some (.tup [.int (a : Int), .int (b : Int)]) → Q (.ref t) H'
def sp_law_ends (Z : Ctx) : Sp := spEnds
abbrev r_law_ends (Z : Ctx) : TS := (tSeq (tAsg (tLc (iRng1 (tCons (tCB (rLenG Z.K) (tCons (tVar 0) tNil)) tNil)) (gName 2) (tTest (tOp rEq (tOp (rIxG Z.K) (tVar 0) (tVar 2)) (tUn uNegI (tC (.int 1))))) (tOp rAddI (tVar 2) (tC (.int 1))) [2]) (gName 1)) (tSeq (tAsg (tLc (iRng1 (tCons (tCB (rLenG Z.K) (tCons (tVar 0) tNil)) tNil)) (gName 2) (tTest (tOp rEq (tOp (rIxG Z.K) (tVar 0) (tVar 2)) (tC (.int 1)))) (tOp rAddI (tVar 2) (tC (.int 1))) [2]) (gName 3)) (tRet (tTup (tCons (tIf (tTest (tOp rGtI (tCB (rLenG Z.K) (tCons (tVar 1) tNil)) (tC (.int 0)))) (tOp (rIxG Z.K) (tVar 1) (tC (.int 0))) (tC (.int 0))) (tCons (tIf (tTest (tOp rGtI (tCB (rLenG Z.K) (tCons (tVar 3) tNil)) (tC (.int 0)))) (tOp (rIxG Z.K) (tVar 3) (tC (.int 0))) (tC (.int 0))) tNil))))))
theorem ln_law_ends : sp_law_ends Z vs H Q E → vs.length = 1 := by rintro ⟨_, _, _, _, rfl, _⟩; rfl
abbrev nm_law_ends : List Str := ["shape", "lows", "place", "highs"]
theorem rd_law_ends (h : sp_law_ends Z vs H Q E) : r_law_ends Z (ends Q) (L2.start nm_law_ends vs) H := by
  obtain ⟨v, w, a, b, rfl, hv, ha, hb, hn, hw, k⟩ := h
  obtain ⟨p, rfl, hp⟩ := rep_row.mp hv
  show r_law_ends Z (ends Q) [some (.ref p), none, none, none] H
  unfold r_law_ends ends
  walk_at "rd"
  refine lcRF (β := Int) (n := w) (fun R h => by walk_at "rd"; rw [lenV, plain_length]; exact ⟨by omega, by omega, h⟩) (dom H) (fun i => decide (at0 (plainR w a b) i = -1)) (fun i => (i : Int) + 1) (by omega) (fun _ h => h) (fun _ => rfl) (fun i H1 hi s1 R k1 => ?_) (fun i H1 M1 hi hf s1 _ _ R k1 => ?_) ?_
  · have h1 := s1 _ _ hp
    have h2 := at0_get (r := plainR w a b) (i := i) (by rw [plain_length]; exact hi)
    show tTest _ [some (.ref p), none, some (.int (i : Int)), none] H1 R
    walk_at "rd"
    exact k1 _ (.refl _)
  · show tOp _ _ _ [some (.ref p), none, some (.int (i : Int)), none] H1 R
    walk_at "rd"
    exact k1 _ _ (.refl _) rfl
  rw [lows_eq ha hn]
  intro p1 x1 H1 s1 n1 e1 a1
  rw [all2_ints.mp a1] at e1
  have hp1 := s1 _ _ hp
  walk_at "rd"
  refine lcRF (β := Int) (n := w) (fun R h => by walk_at "rd"; rw [lenV, plain_length]; exact ⟨by omega, by omega, h⟩) (dom H1) (fun i => decide (at0 (plainR w a b) i = 1)) (fun i => (i : Int) + 1) (by omega) (fun _ h => h) (fun _ => rfl) (fun i H2 hi s2 R k2 => ?_) (fun i H2 M2 hi hf s2 _ _ R k2 => ?_) ?_
  · have h1 := s2 _ _ hp1
    have h2 := at0_get (r := plainR w a b) (i := i) (by rw [plain_length]; exact hi)
    show tTest _ [some (.ref p), some (.ref p1), some (.int (i : Int)), none] H2 R
    walk_at "rd"
    exact k2 _ (.refl _)
  · show tOp _ _ _ [some (.ref p), some (.ref p1), some (.int (i : Int)), none] H2 R
    walk_at "rd"
    exact k2 _ _ (.refl _) rfl
  rw [highs_eq hb]
  intro p2 x2 H2 s2 n2 e2 a2
  rw [all2_ints.mp a2] at e2
  have e12 := s2 _ _ e1
  walk_at "rd"
  have fin : ∀ (x y : V), x = .int (a : Int) → y = .int (b : Int) → [x, y].length ≤ sizeLine ∧ ∀ t, H2 t = none → Q (.ref t) (upd H2 t (.tup [x, y])) := fun x y e1 e2 => by
    subst e1
    subst e2
    exact ⟨small _ (by simp), fun t nt => k t _ ((s1.trans s2).trans (same_new nt)) (s1.free (s2.free nt)) upd_same⟩
  have z0 : ∀ {c : Nat}, ¬ 0 < c → V.int 0 = V.int (c : Int) := fun h => by rw [show _ = 0 from Nat.eq_zero_of_not_pos h]; rfl
  have la : ((endL a).map V.int).length = (endL a).length := lenV
  have lb : ((endL b).map V.int).length = (endL b).length := lenV
  refine w_ite (fun h => ?_) (fun h => ?_)
  · have ga := endL_at (a := a) (by omega)
    walk_at "rd"
    refine w_ixAt 0 0 rfl e12 (by rw [List.getElem?_map, ga]; rfl) ?_
    walk_at "rd"
    refine w_ite (fun h => ?_) (fun h => ?_)
    · have gb := endL_at (a := b) (by omega)
      walk_at "rd"
      refine w_ixAt 0 0 rfl e2 (by rw [List.getElem?_map, gb]; rfl) ?_
      walk_at "rd"
      exact fin _ _ rfl rfl
    · walk_at "rd"
      exact fin _ _ rfl (z0 fun q => by have := endL_pos.mpr q; omega)
  · have ha0 := z0 (c := a) fun q => by have := endL_pos.mpr q; omega
    walk_at "rd"
    refine w_ite (fun h => ?_) (fun h => ?_)
    · have gb := endL_at (a := b) (by omega)
      walk_at "rd"
      refine w_ixAt 0 0 rfl e2 (by rw [List.getElem?_map, gb]; rfl) ?_
      walk_at "rd"
      exact fin _ _ ha0 rfl
    · walk_at "rd"
      exact fin _ _ ha0 (z0 fun q => by have := endL_pos.mpr q; omega)
def sp_plain_ends (Z : Ctx) : Sp := spEnds
abbrev r_plain_ends (Z : Ctx) : TS := (tSeq (tAsg (tLc (iRng1 (tCons (tCB (rLenG Z.K) (tCons (tVar 0) tNil)) tNil)) (gName 2) (tTest (tOp rEq (tOp (rIxG Z.K) (tVar 0) (tVar 2)) (tUn uNegI (tC (.int 1))))) (tOp rAddI (tVar 2) (tC (.int 1))) [2]) (gName 1)) (tSeq (tAsg (tLc (iRng1 (tCons (tCB (rLenG Z.K) (tCons (tVar 0) tNil)) tNil)) (gName 2) (tTest (tOp rEq (tOp (rIxG Z.K) (tVar 0) (tVar 2)) (tC (.int 1)))) (tOp rAddI (tVar 2) (tC (.int 1))) [2]) (gName 3)) (tSeq (tAsg (tLc (iList Z.K (tVar 0)) (gName 5) (tTest (tOp rEq (tVar 5) (tC (.int 0)))) (tVar 5) [5]) (gName 4)) (tSeq (tIfS (tOr (tTest (tOp rGtI (tCB (rLenG Z.K) (tCons (tVar 1) tNil)) (tC (.int 1)))) (tOr (tTest (tOp rGtI (tCB (rLenG Z.K) (tCons (tVar 3) tNil)) (tC (.int 1)))) (tTest (tOp rNe (tOp rAddI (tOp rAddI (tCB (rLenG Z.K) (tCons (tVar 1) tNil)) (tCB (rLenG Z.K) (tCons (tVar 3) tNil))) (tCB (rLenG Z.K) (tCons (tVar 4) tNil))) (tCB (rLenG Z.K) (tCons (tVar 0) tNil)))))) (tRet (tC .non)) tNext) (tSeq (tIfS (tAnd (tTest (tOp (rEqD Z.K) (tVar 1) (tLst tNil))) (tTest (tOp (rEqD Z.K) (tVar 3) (tLst tNil)))) (tRet (tC .non)) tNext) (tRet (tTup (tCons (tIf (tTest (tOp (rNeD Z.K) (tVar 1) (tLst tNil))) (tOp (rIxG Z.K) (tVar 1) (tC (.int 0))) (tC (.int 0))) (tCons (tIf (tTest (tOp (rNeD Z.K) (tVar 3) (tLst tNil))) (tOp (rIxG Z.K) (tVar 3) (tC (.int 0))) (tC (.int 0))) tNil)))))))))
theorem ln_plain_ends : sp_plain_ends Z vs H Q E → vs.length = 1 := by rintro ⟨_, _, _, _, rfl, _⟩; rfl
abbrev nm_plain_ends : List Str := ["shape", "lows", "place", "highs", "zeros", "one"]
theorem rd_plain_ends (h : sp_plain_ends Z vs H Q E) : r_plain_ends Z (ends Q) (L2.start nm_plain_ends vs) H := by
  obtain ⟨v, w, a, b, rfl, hv, ha, hb, hn, hw, k⟩ := h
  obtain ⟨p, rfl, hp⟩ := rep_row.mp hv
  show r_plain_ends Z (ends Q) [some (.ref p), none, none, none, none, none] H
  unfold r_plain_ends ends
  walk_at "rd"
  refine lcRF (β := Int) (n := w) (fun R h => by walk_at "rd"; rw [lenV, plain_length]; exact ⟨by omega, by omega, h⟩) (dom H) (fun i => decide (at0 (plainR w a b) i = -1)) (fun i => (i : Int) + 1) (by omega) (fun _ h => h) (fun _ => rfl) (fun i H1 hi s1 R k1 => ?_) (fun i H1 M1 hi hf s1 _ _ R k1 => ?_) ?_
  · have h1 := s1 _ _ hp
    have h2 := at0_get (r := plainR w a b) (i := i) (by rw [plain_length]; exact hi)
    show tTest _ [some (.ref p), none, some (.int (i : Int)), none, none, none] H1 R
    walk_at "rd"
    exact k1 _ (.refl _)
  · show tOp _ _ _ [some (.ref p), none, some (.int (i : Int)), none, none, none] H1 R
    walk_at "rd"
    exact k1 _ _ (.refl _) rfl
  rw [lows_eq ha hn]
  intro p1 x1 H1 s1 n1 e1 a1
  rw [all2_ints.mp a1] at e1
  have hp1 := s1 _ _ hp
  walk_at "rd"
  refine lcRF (β := Int) (n := w) (fun R h => by walk_at "rd"; rw [lenV, plain_length]; exact ⟨by omega, by omega, h⟩) (dom H1) (fun i => decide (at0 (plainR w a b) i = 1)) (fun i => (i : Int) + 1) (by omega) (fun _ h => h) (fun _ => rfl) (fun i H2 hi s2 R k2 => ?_) (fun i H2 M2 hi hf s2 _ _ R k2 => ?_) ?_
  · have h1 := s2 _ _ hp1
    have h2 := at0_get (r := plainR w a b) (i := i) (by rw [plain_length]; exact hi)
    show tTest _ [some (.ref p), some (.ref p1), some (.int (i : Int)), none, none, none] H2 R
    walk_at "rd"
    exact k2 _ (.refl _)
  · show tOp _ _ _ [some (.ref p), some (.ref p1), some (.int (i : Int)), none, none, none] H2 R
    walk_at "rd"
    exact k2 _ _ (.refl _) rfl
  rw [highs_eq hb]
  intro p2 x2 H2 s2 n2 e2 a2
  rw [all2_ints.mp a2] at e2
  have hp2 := s2 _ _ hp1
  have e12 := s2 _ _ e1
  walk_at "rd"
  refine lcLF (β := Int) (xs := (plainR w a b).map V.int) (fun R h => by walk_at "rd"; exact h) (dom H2) (fun i => decide (at0 (plainR w a b) i = 0)) (fun i => at0 (plainR w a b) i) (SqL.of hp2) (by rw [lenV, plain_length]; omega) (fun _ h => h) (fun _ => rfl) (fun i x H3 hi s3 R k3 => ?_) (fun i x H3 M3 hi hf s3 _ _ R k3 => ?_) ?_
  · obtain ⟨z, hz, rfl⟩ := row_at hi
    obtain rfl := at0_some hz
    show tTest _ [some (.ref p), some (.ref p1), none, some (.ref p2), none, some (.int (at0 (plainR w a b) i))] H3 R
    walk_at "rd"
    exact k3 _ (.refl _)
  · obtain ⟨z, hz, rfl⟩ := row_at hi
    obtain rfl := at0_some hz
    show tVar 5 [some (.ref p), some (.ref p1), none, some (.ref p2), none, some (.int (at0 (plainR w a b) i))] H3 R
    walk_at "rd"
    exact k3 _ _ (.refl _) rfl
  rw [lenV, plain_length]
  intro p3 x3 H3 s3 n3 e3 a3
  have l3 := a3.len
  rw [List.length_map] at l3
  have tl := three_len ha hb hn
  have e13 := s3 _ _ e12
  have e23 := s3 _ _ e2
  have hp3 := s3 _ _ hp2
  have la : ((endL a).map V.int).length = (endL a).length := lenV
  have lb : ((endL b).map V.int).length = (endL b).length := lenV
  have la1 := endL_len (a := a)
  have lb1 := endL_len (a := b)
  have lp : ((plainR w a b).map V.int).length = w := by rw [lenV, plain_length]
  walk_at "rd"
  refine w_ite (fun h => by omega) (fun _ => ?_)
  walk_at "rd"
  refine w_ite (fun h => by omega) (fun _ => ?_)
  walk_at "rd"
  refine w_ite (fun h => absurd (show ((((endL a).map V.int).length : Int) + ((endL b).map V.int).length + x3.length) = (((plainR w a b).map V.int).length : Int) by omega) h) (fun _ => ?_)
  walk_at "rd"
  have nil : ∀ {c : Nat}, (endL c = []) ↔ ¬ 0 < c := fun {c} => by
    unfold endL
    split <;> simp_all
  refine ⟨by decide, fun l4 n4 => ?_⟩
  have s4 := same_new (o := .lst []) n4
  have e4 : (upd H3 l4 (.lst [])) l4 = some (.lst []) := upd_same
  generalize upd H3 l4 (.lst []) = H4 at s4 e4
  refine w_eqD (α := Row) (a := endL a) (b := []) (rep_row_of (s4 _ _ e13)) (rep_row_of e4) ?_
  have s04 := s1.trans (s2.trans (s3.trans s4))
  have rest : ∀ (H5 : Hp), Same H4 H5 → (tRet (tTup (tCons (tIf (tTest (tOp (rNeD Z.K) (tVar 1) (tLst tNil))) (tOp (rIxG Z.K) (tVar 1) (tC (.int 0))) (tC (.int 0))) (tCons (tIf (tTest (tOp (rNeD Z.K) (tVar 3) (tLst tNil))) (tOp (rIxG Z.K) (tVar 3) (tC (.int 0))) (tC (.int 0))) tNil)))) { nx := fun _ H' => Q .non H', rt := Q } [some (.ref p), some (.ref p1), none, some (.ref p2), some (.ref p3), none] H5 := by
    intro H5 s5
    have e15 := s5 _ _ (s4 _ _ e13)
    have e25 := s5 _ _ (s4 _ _ e23)
    have fin : ∀ (x y : V) H', Same H5 H' → x = .int (a : Int) → y = .int (b : Int) → [x, y].length ≤ sizeLine ∧ ∀ t, H' t = none → Q (.ref t) (upd H' t (.tup [x, y])) := fun x y H' s e1 e2 => by
      subst e1
      subst e2
      have sx := s04.trans (s5.trans s)
      exact ⟨small _ (by simp), fun t nt => k t _ (sx.trans (same_new nt)) (sx.free nt) upd_same⟩
    have z0 : ∀ {c : Nat}, ¬ 0 < c → V.int 0 = V.int (c : Int) := fun h => by rw [show _ = 0 from Nat.eq_zero_of_not_pos h]; rfl
    have second : ∀ (x : V) H', Same H5 H' → x = .int (a : Int) → tIf (tTest (tOp (rNeD Z.K) (tVar 3) (tLst tNil))) (tOp (rIxG Z.K) (tVar 3) (tC (.int 0))) (tC (.int 0)) [some (.ref p), some (.ref p1), none, some (.ref p2), some (.ref p3), none] H' fun y H'' => tNil [some (.ref p), some (.ref p1), none, some (.ref p2), some (.ref p3), none] H'' fun xs H2 => (x :: y :: xs).length ≤ sizeLine ∧ ∀ t, H2 t = none → Q (.ref t) (upd H2 t (.tup (x :: y :: xs))) := fun x H' s ex => by
      have e25' := s _ _ e25
      walk_at "rd"
      refine ⟨by decide, fun l6 n6 => ?_⟩
      have s6 := same_new (o := .lst []) n6
      have e6 : (upd H' l6 (.lst [])) l6 = some (.lst []) := upd_same
      generalize upd H' l6 (.lst []) = H6 at s6 e6
      refine w_neD (α := Row) (a := endL b) (b := []) (rep_row_of (s6 _ _ e25')) (rep_row_of e6) ?_
      walk_at "rd"
      refine w_ite (fun h => ?_) (fun h => ?_)
      · have hb0 : 0 < b := Classical.byContradiction fun q => h (nil.mpr q)
        walk_at "rd"
        refine w_ixAt 0 0 rfl (s6 _ _ e25') (by rw [List.getElem?_map, endL_at (endL_pos.mpr hb0)]; rfl) ?_
        walk_at "rd"
        exact fin _ _ _ (s.trans s6) ex rfl
      · have hb0 : ¬ 0 < b := nil.mp (Classical.not_not.mp h)
        walk_at "rd"
        exact fin _ _ _ (s.trans s6) ex (z0 hb0)
    walk_at "rd"
    refine ⟨by decide, fun l6 n6 => ?_⟩
    have s6 := same_new (o := .lst []) n6
    have e6 : (upd H5 l6 (.lst [])) l6 = some (.lst []) := upd_same
    generalize upd H5 l6 (.lst []) = H6 at s6 e6
    refine w_neD (α := Row) (a := endL a) (b := []) (rep_row_of (s6 _ _ e15)) (rep_row_of e6) ?_
    refine ⟨_, rfl, ?_⟩
    refine w_ite (fun h => ?_) (fun h => ?_)
    · have ha0 : 0 < a := Classical.byContradiction fun q => h (nil.mpr q)
      refine w_op (tv_1 (w_c (w_ixAt 0 0 rfl (s6 _ _ e15) (by rw [List.getElem?_map, endL_at (endL_pos.mpr ha0)]; rfl) ?_)))
      refine w_cons ?_
      exact second _ _ s6 rfl
    · have ha0 : ¬ 0 < a := nil.mp (Classical.not_not.mp h)
      refine w_c ?_
      refine w_cons ?_
      exact second _ _ s6 (z0 ha0)
  walk_at "rd"
  refine w_ite (fun h => ?_) (fun _ => ?_)
  · walk_at "rd"
    refine ⟨by decide, fun l5 n5 => ?_⟩
    have s5 := same_new (o := .lst []) n5
    refine w_eqD (α := Row) (a := endL b) (b := []) (rep_row_of (s5 _ _ (s4 _ _ e23))) (rep_row_of upd_same) ?_
    walk_at "rd"
    refine w_ite (fun h2 => ?_) (fun _ => ?_)
    · have := nil.mp h
      have := nil.mp h2
      omega
    · exact rest _ s5
  · exact rest _ (.refl _)
end
end G
end
section
set_option Elab.async false
set_option linter.all false
set_option maxRecDepth 100000
namespace G
open PySem L2 PyProof.Rows
local macro_rules | `(tactic| walk_at "rd") => `(tactic| repeat (first
  | (with_reducible refine v_seq ?_)
  | (with_reducible refine v_asg ?_)
  | (with_reducible refine w_cons ?_)
  | (with_reducible refine w_nil ?_)
  | (with_reducible refine w_op ?_)
  | (with_reducible refine w_c ?_)
  | (with_reducible refine w_I0 ?_)
  | (with_reducible refine w_cb ?_)
  | (with_reducible refine w_call ?_)
  | (with_reducible refine v_ret ?_)
  | (with_reducible refine v_next ?_)
  | (with_reducible refine w_ixR (by assumption) (by assumption) ?_)
  | (with_reducible refine w_ix (by assumption) (by assumption) ?_)
  | (with_reducible refine w_test ?_)
  | (with_reducible refine w_tB ?_)
  | (with_reducible refine w_and ?_)
  | (with_reducible refine w_or ?_)
  | (with_reducible refine w_not ?_)
  | (with_reducible refine w_ifE ?_)
  | (with_reducible refine v_ifS ?_)
  | (with_reducible refine w_tt ?_)
  | (with_reducible refine w_ff ?_)
  | (with_reducible refine w_eqI ?_)
  | (with_reducible refine w_neI ?_)
  | (with_reducible refine w_U ?_)
  | (with_reducible refine w_un ?_)
  | (with_reducible refine w_len (by assumption) ?_)
  | (with_reducible refine w_abs ?_)
  | (with_reducible refine w_int ?_)
  | (with_reducible refine w_isN0 ?_)
  | (with_reducible refine w_isN1 (by assumption) ?_)
  | (with_reducible refine w_isN1 ne_in ?_)
  | (with_reducible refine w_isN1 ne_rn ?_)
  | (with_reducible refine w_notN0 ?_)
  | (with_reducible refine w_notN1 ne_in ?_)
  | (with_reducible refine w_notN1 ne_rn ?_)
  | (with_reducible refine v_lst ?_)
  | (with_reducible refine v_tup ?_)
  | (with_reducible refine w_notN1 (by assumption) ?_)
  | (with_reducible refine v_drop ?_)
  | (with_reducible refine w_bm ?_)
  | (with_reducible refine v_for ?_)
  | (with_reducible refine v_rng1 ?_)
  | (with_reducible refine v_rng2 ?_)
  | (with_reducible refine v_list ?_)
  | (with_reducible refine w_sub ?_)
  | (with_reducible refine v_ip ?_)
  | (with_reducible refine v_augS ?_)
  | (with_reducible refine v_retN ?_)
  | (with_reducible refine w_yes ?_)
  | (with_reducible refine tv_0 ?_)
  | (with_reducible refine nv_0 ?_)
  | (with_reducible refine av_0 ?_)
  | (with_reducible refine tv_1 ?_)
  | (with_reducible refine nv_1 ?_)
  | (with_reducible refine av_1 ?_)
  | (with_reducible refine tv_2 ?_)
  | (with_reducible refine nv_2 ?_)
  | (with_reducible refine av_2 ?_)
  | (with_reducible refine tv_3 ?_)
  | (with_reducible refine nv_3 ?_)
  | (with_reducible refine av_3 ?_)
  | (with_reducible refine tv_4 ?_)
  | (with_reducible refine nv_4 ?_)
  | (with_reducible refine av_4 ?_)
  | (with_reducible refine tv_5 ?_)
  | (with_reducible refine nv_5 ?_)
  | (with_reducible refine av_5 ?_)
  | (with_reducible refine tv_6 ?_)
  | (with_reducible refine nv_6 ?_)
  | (with_reducible refine av_6 ?_)
  | (with_reducible refine tv_7 ?_)
  | (with_reducible refine nv_7 ?_)
  | (with_reducible refine av_7 ?_)
  | (with_reducible refine tv_8 ?_)
  | (with_reducible refine nv_8 ?_)
  | (with_reducible refine av_8 ?_)
  | (with_reducible refine tv_9 ?_)
  | (with_reducible refine nv_9 ?_)
  | (with_reducible refine av_9 ?_)
  | (with_reducible refine tv_10 ?_)
  | (with_reducible refine nv_10 ?_)
  | (with_reducible refine av_10 ?_)
  | (with_reducible refine tv_11 ?_)
  | (with_reducible refine nv_11 ?_)
  | (with_reducible refine av_11 ?_)
  | (with_reducible refine tv_12 ?_)
  | (with_reducible refine nv_12 ?_)
  | (with_reducible refine av_12 ?_)
  | (with_reducible refine tv_13 ?_)
  | (with_reducible refine nv_13 ?_)
  | (with_reducible refine av_13 ?_)
  | (with_reducible refine tv_14 ?_)
  | (with_reducible refine nv_14 ?_)
  | (with_reducible refine av_14 ?_)
  | (with_reducible refine tv_15 ?_)
  | (with_reducible refine nv_15 ?_)
  | (with_reducible refine av_15 ?_)
  | (with_reducible refine tv_16 ?_)
  | (with_reducible refine nv_16 ?_)
  | (with_reducible refine av_16 ?_)
  | (with_reducible refine tv_17 ?_)
  | (with_reducible refine nv_17 ?_)
  | (with_reducible refine av_17 ?_)
  | (with_reducible refine tv_18 ?_)
  | (with_reducible refine nv_18 ?_)
  | (with_reducible refine av_18 ?_)
  | (with_reducible refine tv_19 ?_)
  | (with_reducible refine nv_19 ?_)
  | (with_reducible refine av_19 ?_)
  | (with_reducible refine tv_20 ?_)
  | (with_reducible refine nv_20 ?_)
  | (with_reducible refine av_20 ?_)
  | (with_reducible refine tv_21 ?_)
  | (with_reducible refine nv_21 ?_)
  | (with_reducible refine av_21 ?_)
  | (with_reducible refine tv_22 ?_)
  | (with_reducible refine nv_22 ?_)
  | (with_reducible refine av_22 ?_)
  | (with_reducible refine tv_23 ?_)
  | (with_reducible refine nv_23 ?_)
  | (with_reducible refine av_23 ?_)
  | (with_reducible refine tv_24 ?_)
  | (with_reducible refine nv_24 ?_)
  | (with_reducible refine av_24 ?_)
  | (with_reducible refine tv_25 ?_)
  | (with_reducible refine nv_25 ?_)
  | (with_reducible refine av_25 ?_)
  | (with_reducible refine ⟨_, rfl, ⟨_, SqL.of (by assumption)⟩, ?_⟩)
  | (with_reducible refine ⟨_, rfl, (by omega), (by omega), ?_⟩)
  | (with_reducible refine ⟨w_tyL (by assumption), ?_⟩)
  | (with_reducible refine w_isiII ?_)
  | (with_reducible refine w_isiIB ?_)
  | (with_reducible refine w_isiBB ?_)
  | (with_reducible refine w_isiBI ?_)
  | (with_reducible refine w_isiNL ?_)
  | (with_reducible refine w_isiLL (by assumption) ?_)
  | (with_reducible refine v_sl ?_)
  | (with_reducible refine w_nff ?_)
  | (with_reducible refine w_ntt ?_)
  | (with_reducible refine v_chain ?_)
  | (with_reducible refine v_andV ?_)
  | (with_reducible refine v_orV ?_)
  | (with_reducible refine v_chain3 ?_)
  | (with_reducible refine w_min2 ?_)
  | (with_reducible refine v_lstRg ?_)
  | (with_reducible refine w_in (by assumption) ?_)
  | (with_reducible refine w_nin (by assumption) ?_)
  | (with_reducible refine v_notV ?_)
  | (with_reducible refine v_noP ?_)
  | (with_reducible refine v_part ?_)
  | (with_reducible refine v_fld ?_)
  | (with_reducible refine v_sfld ?_)
  | (with_reducible refine ⟨_, (rfl : V.bl _ = V.bl _), ?_⟩)
  | (with_reducible refine ⟨_, (rfl : V.ref _ = V.ref _), ?_⟩)
  | (with_reducible refine ⟨_, (rfl : [V.int _] = [V.int _]), ?_⟩)
  | (with_reducible refine ⟨_, (rfl : V.int _ = V.int _), ?_⟩)
  | (with_reducible refine ⟨⟨_, SqL.of (by assumption)⟩, ?_⟩)
  | (with_reducible refine ⟨(by (first | omega | (rw [lenV]; omega)) : -(2 ^ 62) ≤ _), (by first | omega | (rw [lenV]; omega)), ?_⟩)
  | (with_reducible refine v_meth ?_)
  | (with_reducible refine v_make ?_)
  | (with_reducible refine w_neBB ?_)
  | (with_reducible refine w_eqBB ?_)
  | (with_reducible refine w_isiRI (by assumption) ?_)
  ))
theorem ierase_perm0 : ∀ {m : Row} {i : Nat}, i < m.length → (at0 m i :: m.eraseIdx i).Perm m
  | [], _, h => by simp at h
  | a :: m, 0, _ => List.Perm.refl _
  | a :: m, i + 1, h => by
    have ih := ierase_perm0 (m := m) (i := i) (by simpa using h)
    show (at0 m i :: a :: m.eraseIdx i).Perm (a :: m)
    exact (List.Perm.swap ..).trans (ih.cons a)
theorem ierase_perm {m : Row} {i : Nat} (h : i < m.length) : (m.eraseIdx i ++ [at0 m i]).Perm m := (List.perm_append_comm).trans (ierase_perm0 h)
section
variable {Z : Ctx} {vs : List V} {H : Hp} {Q : VK} {E : XK}
theorem rep_chg {α : Type} [Rep α] {H H' : Hp} {p : Addr} {v : V} {a : α} (c : Chg p H H') (h : rep (off H fun a => a = p) v a) : rep (off H' fun a => a = p) v a := Rep.mono (c.off (M := fun a => a = p) rfl) h
def sp_law_mix (Z : Ctx) : Sp := fun vs H Q _ => ∃ p v, ∃ r : Row, vs = [.ref p, v] ∧ PurseAt H p ∧ rep H v r ∧ r.length ≤ 1000 ∧ ∀ D (r' : Row) H', Chg p H H' → PurseAt H' p → H D = none → H' D = some (.lst (r'.map V.int)) → r'.Perm r → Q (.ref D) H'
abbrev r_law_mix (Z : Ctx) : TS := (tSeq (tAsg (tCB (rLstG Z.K) (tCons (tVar 1) tNil)) (gName 2)) (tSeq (tAsg (tLst tNil) (gName 3)) (tSeq (tFor (iRng1 (tCons (tCB (rLenG Z.K) (tCons (tVar 1) tNil)) tNil)) (gName 4) (tDrop (tBM Z.K "list" rAppend (tVar 3) (tCons (tBM Z.K "list" rPopAt (tVar 2) (tCons (tCall (sp_law_draw Z) [] E0 (tCons (tVar 0) (tCons (tCB (rLenG Z.K) (tCons (tVar 2) tNil)) tNil))) tNil)) tNil)))) (tRet (tVar 3)))))
theorem ln_law_mix : sp_law_mix Z vs H Q E → vs.length = 2 := by rintro ⟨_, _, _, rfl, _⟩; rfl
abbrev nm_law_mix : List Str := ["purse", "things", "left", "mixed", "turn"]
theorem rd_law_mix (h : sp_law_mix Z vs H Q E) : r_law_mix Z (ends Q) (L2.start nm_law_mix vs) H := by
  obtain ⟨p, v, r, rfl, hp, hv, hz, k⟩ := h
  obtain ⟨l, rfl, hl⟩ := rep_row.mp hv
  show r_law_mix Z (ends Q) [some (.ref p), some (.ref l), none, none, none] H
  unfold r_law_mix ends
  walk_at "rd"
  refine w_lst hl fun L nL => ?_
  have npL := hp.ne (H0 := H) nL
  walk_at "rd"
  refine ⟨by decide, fun D nD => ?_⟩
  have nD0 : H D = none := free_of nL nD
  have npD := hp.ne (H0 := H) nD0
  have nDL : D ≠ L := fun z => by rw [z, upd_same] at nD; cases nD
  have f1 : (upd (upd H L (.lst (r.map V.int))) D (.lst [])) l = some (.lst (r.map V.int)) := (same_new nD) _ _ ((same_new nL) _ _ hl)
  walk_at "rd"
  refine forR (n := (r.map V.int).length) (fun i σ H' => ∃ ml mm e, σ = [some (.ref p), some (.ref l), some (.ref L), some (.ref D), e] ∧ Chg p H H' ∧ PurseAt H' p ∧ H' L = some (.lst ((ml : Row).map V.int)) ∧ H' D = some (.lst ((mm : Row).map V.int)) ∧ (ml ++ mm).Perm r ∧ mm.length = i)
    ⟨r, [], _, rfl, ((Chg.refl H).mut nL).mut nD0, (hp.upd npL).upd npD, by rw [upd_ne nDL.symm]; exact upd_same, upd_same, by simp, rfl⟩ ?_ ?_
  · rintro i σ H' hi ⟨ml, mm, e, rfl, c, pu, hL, hD, pm, lm⟩
    rw [lenV] at hi
    show tDrop _ _ [some (.ref p), some (.ref l), some (.ref L), some (.ref D), some (.int (i : Int))] H'
    have h3 := pm.length_eq
    rw [List.length_append] at h3
    walk_at "rd"
    refine ⟨p, _, rfl, pu, by rw [lenV]; omega, fun z H2 c2 p2 l3 l4 => ?_⟩
    rw [lenV] at l4
    obtain ⟨t, rfl⟩ := Int.eq_ofNat_of_zero_le l3
    have ht : t < ml.length := by omega
    have hL2 := c2 _ _ npL hL
    have hD2 := c2 _ _ npD hD
    walk_at "rd"
    refine w_popAt hL2 (by rw [lenV]; omega) (by rw [List.getElem?_map, at0_get ht]; rfl) ?_
    have hD3 : (upd H2 L (.lst ((ml.map V.int).eraseIdx t))) D = some (.lst (mm.map V.int)) := by rw [upd_ne nDL]; exact hD2
    walk_at "rd"
    refine w_app hD3 (by rw [lenV]; omega) ?_
    refine ⟨ml.eraseIdx t, mm ++ [at0 ml t], _, rfl, ((c.trans c2).mut nL).mut nD0, (p2.upd npL).upd npD, by rw [upd_ne nDL.symm, upd_same, map_erase], by rw [upd_same, List.map_append]; rfl, ?_, by simp [lm]⟩
    refine List.Perm.trans ?_ pm
    rw [← List.append_assoc]
    refine List.Perm.trans ?_ ((ierase_perm ht).append_right mm)
    rw [List.append_assoc, List.append_assoc]
    exact List.Perm.append_left _ List.perm_append_comm
  · rintro σ H' ⟨ml, mm, e, rfl, c, pu, hL, hD, pm, lm⟩
    walk_at "rd"
    have h3 := pm.length_eq
    rw [List.length_append] at h3
    rw [lenV] at lm
    have h0 : ml = [] := List.eq_nil_of_length_eq_zero (by omega)
    subst h0
    exact k D mm H' c pu nD0 hD (by simpa using pm)
/-! ### blocks -/
structure Blk (w n : Nat) (B : Mat) : Prop where
  len : B.length ≤ n
  ne : ∀ b ∈ B, b ≠ []
  inn : ∀ x ∈ B.flatten, 1 ≤ x ∧ x ≤ (w : Int)
  nd : B.flatten.Nodup
theorem filt_nd {w : Nat} {f : Nat → Bool} : (((List.range w).filter f).map fun (i : Nat) => (i : Int) + 1).Nodup := by
  exact List.Pairwise.map _ (fun a b h e => h (by omega)) (List.Pairwise.filter _ List.nodup_range)
def sp_law_blocks (Z : Ctx) : Sp := fun vs H Q _ => ∃ p, ∃ z : Int, ∃ w n : Nat, vs = [.ref p, .int (w : Int), .int z] ∧ z = (n : Int) ∧ PurseAt H p ∧ w ≤ 1000 ∧ n ≤ 100 ∧
  ∀ D xs (B : Mat) H', Chg p H H' → PurseAt H' p → H D = none → H' D = some (.lst xs) → All2 (rep (off H' (wth (fun a => a = p) D))) xs B → Blk w n B → Q (.ref D) H'
abbrev r_law_blocks (Z : Ctx) : TS := (tSeq (tAsg (tLc (iRng1 (tCons (tVar 1) tNil)) (gName 4) tYes (tCall (sp_law_draw Z) [] E0 (tCons (tVar 0) (tCons (tOp rAddI (tVar 2) (tC (.int 1))) tNil))) [4]) (gName 3)) (tSeq (tAsg (tLst tNil) (gName 5)) (tSeq (tFor (iRng1 (tCons (tVar 2) tNil)) (gName 6) (tSeq (tAsg (tLc (iRng1 (tCons (tVar 1) tNil)) (gName 4) (tTest (tOp rEq (tOp (rIxG Z.K) (tVar 3) (tVar 4)) (tVar 6))) (tOp rAddI (tVar 4) (tC (.int 1))) [4]) (gName 7)) (tIfS (tTest (tOp (rNeD Z.K) (tVar 7) (tLst tNil))) (tDrop (tBM Z.K "list" rAppend (tVar 5) (tCons (tCall (sp_law_mix Z) [] E0 (tCons (tVar 0) (tCons (tVar 7) tNil))) tNil))) tNext))) (tRet (tVar 5)))))
theorem ln_law_blocks : sp_law_blocks Z vs H Q E → vs.length = 3 := by rintro ⟨_, _, _, _, rfl, _⟩; rfl
abbrev nm_law_blocks : List Str := ["purse", "books", "many", "homes", "place", "found", "number", "block"]
theorem rd_law_blocks (h : sp_law_blocks Z vs H Q E) : r_law_blocks Z (ends Q) (L2.start nm_law_blocks vs) H := by
  obtain ⟨p, _, w, n, rfl, rfl, hp, hw, hn, k⟩ := h
  show r_law_blocks Z (ends Q) [some (.ref p), some (.int (w : Int)), some (.int (n : Int)), none, none, none, none, none] H
  unfold r_law_blocks ends
  walk_at "rd"
  refine lcRP (n := w) (p := p) (P := fun _ => True) (fun R h => by walk_at "rd"; exact h) hp (by omega) (fun _ => rfl) (fun i H1 hi c1 p1 R k1 => ?_) (fun qh hs H1 c1 p1 n1 e1 lh _ => ?_)
  · show tCall _ _ _ _ [some (.ref p), some (.int (w : Int)), some (.int (n : Int)), none, some (.int (i : Int)), none, none, none] H1 R
    walk_at "rd"
    exact ⟨p, _, rfl, p1, by omega, fun z H2 c2 p2 _ _ => k1 z H2 trivial c2 p2⟩
  have nph := hp.ne (H0 := H) n1
  walk_at "rd"
  refine ⟨by decide, fun D nD => ?_⟩
  have npD := p1.ne (H0 := H1) nD
  have nhD : qh ≠ D := fun z => by rw [z, nD] at e1; cases e1
  walk_at "rd"
  refine forR (n := n) (fun i σ H' => ∃ xs B e6 e7, σ = [some (.ref p), some (.int (w : Int)), some (.int (n : Int)), some (.ref qh), none, some (.ref D), e6, e7] ∧ Chg p H1 H' ∧ PurseAt H' p ∧ H' D = some (.lst xs) ∧ All2 (rep (off H' (wth (fun a => a = p) D))) xs B ∧ Blk w i B ∧
      ∀ x ∈ (B : Mat).flatten, ∃ j, j < w ∧ x = (j : Int) + 1 ∧ at0 hs j < (i : Int)) ⟨[], [], _, _, rfl, (Chg.refl H1).mut nD, p1.upd npD, upd_same, trivial, ⟨Nat.le_refl _, fun b h => absurd h (by simp), fun b h => absurd h (by simp), by simp⟩, fun b h => absurd h (by simp)⟩ ?_ ?_
  · rintro i σ H' hi ⟨xs, B, e6, e7, rfl, c, pu, hD, aD, hB, hj⟩
    have hlen := aD.len
    have hBl := hB.len
    have eh := c _ _ nph e1
    show tSeq _ _ _ [some (.ref p), some (.int (w : Int)), some (.int (n : Int)), some (.ref qh), none, some (.ref D), some (.int (i : Int)), e7] H'
    walk_at "rd"
    refine lcRF (β := Int) (n := w) (fun R h => by walk_at "rd"; exact h) (dom H') (fun j => decide (at0 hs j = (i : Int))) (fun j => (j : Int) + 1) (by omega) (fun _ h => h) (fun _ => rfl) (fun j H2 hj2 s2 R k2 => ?_) (fun j H2 M2 hj2 hf s2 _ _ R k2 => ?_) ?_
    · have h2 := s2 _ _ eh
      have h3 := at0_get (r := hs) (i := j) (by omega)
      show tTest _ [some (.ref p), some (.int (w : Int)), some (.int (n : Int)), some (.ref qh), some (.int (j : Int)), some (.ref D), some (.int (i : Int)), e7] H2 R
      walk_at "rd"
      exact k2 _ (.refl _)
    · show tOp _ _ _ [some (.ref p), some (.int (w : Int)), some (.int (n : Int)), some (.ref qh), some (.int (j : Int)), some (.ref D), some (.int (i : Int)), e7] H2 R
      walk_at "rd"
      exact k2 _ _ (.refl _) rfl
    intro qb xb H2 s2 n2 e2 a2
    rw [all2_ints.mp a2] at e2
    have bn := filt_nd (w := w) (f := fun j => decide (at0 hs j = (i : Int)))
    have bm : ∀ x ∈ (((List.range w).filter fun j => decide (at0 hs j = (i : Int))).map fun (j : Nat) => (j : Int) + 1), ∃ j, j < w ∧ x = (j : Int) + 1 ∧ at0 hs j = (i : Int) := fun x hx => by
      obtain ⟨j, hj, rfl⟩ := List.mem_map.mp hx
      obtain ⟨h1, h2⟩ := List.mem_filter.mp hj
      exact ⟨j, List.mem_range.mp h1, rfl, of_decide_eq_true h2⟩
    have bl : (((List.range w).filter fun j => decide (at0 hs j = (i : Int))).map fun (j : Nat) => (j : Int) + 1).length ≤ w := by
      rw [List.length_map]
      have := List.length_filter_le (fun j => decide (at0 hs j = (i : Int))) (List.range w)
      rw [List.length_range] at this
      exact this
    generalize (((List.range w).filter fun j => decide (at0 hs j = (i : Int))).map fun (j : Nat) => (j : Int) + 1) = blk at e2 bn bm bl
    walk_at "rd"
    refine ⟨by decide, fun l3 n3 => ?_⟩
    have s3 := same_new (o := .lst []) n3
    have e3 : (upd H2 l3 (.lst [])) l3 = some (.lst []) := upd_same
    have e23 := s3 _ _ e2
    generalize upd H2 l3 (.lst []) = H3 at s3 e3 e23
    have s23 := s2.trans s3
    refine w_neD (α := Row) (a := blk) (b := []) (rep_row_of e23) (rep_row_of e3) ?_
    walk_at "rd"
    refine w_ite (fun h => ?_) (fun h => ?_)
    · walk_at "rd"
      have hD3 := s23 _ _ hD
      refine ⟨w_tyL hD3, ?_⟩
      walk_at "rd"
      refine ⟨p, .ref qb, blk, rfl, pu.same s23, rep_row_of e23, by omega, fun q r' H4 c4 p4 n4 e4 pm => ?_⟩
      walk_at "rd"
      have hD4 := c4 _ _ npD hD3
      have c34 : Chg p H' H4 := (Chg.of s23).trans c4
      refine w_app hD4 (by omega) ?_
      refine ⟨_, B ++ [r'], _, _, rfl, (c.trans c34).mut nD, p4.upd npD, upd_same, ?_, ⟨by rw [List.length_append]; simp; omega, fun b hb => ?_, fun x hx => ?_, ?_⟩, fun x hx => ?_⟩
      · rw [off_upd wth_l]
        refine (all2_mono (c34.off (M := wth (fun a => a = p) D) (.inl rfl)) aD).snoc (rep_row_of (off_in (fun z => ?_) e4))
        rcases z with z | z
        · exact pu.ne (H0 := H') (s23.free n4) z
        · rw [z, hD3] at n4; cases n4
      · rcases List.mem_append.mp hb with z | z
        · exact hB.ne b z
        · rw [List.mem_singleton.mp z]
          intro q
          rw [q] at pm
          exact h (List.nil_perm.mp pm)
      · rw [List.flatten_append] at hx
        rcases List.mem_append.mp hx with z | z
        · exact hB.inn x z
        · have z : x ∈ r' := by simpa using z
          obtain ⟨j, h1, rfl, _⟩ := bm x (pm.mem_iff.mp z)
          omega
      · rw [List.flatten_append]
        refine List.nodup_append.mpr ⟨hB.nd, by simpa using pm.nodup_iff.mpr bn, fun x hx y hy q => ?_⟩
        have hy : y ∈ r' := by simpa using hy
        obtain ⟨j1, g1, g2, g3⟩ := hj x hx
        obtain ⟨j2, g4, g5, g6⟩ := bm y (pm.mem_iff.mp hy)
        have : j1 = j2 := by omega
        subst this
        omega
      · rw [List.flatten_append] at hx
        rcases List.mem_append.mp hx with z | z
        · obtain ⟨j, h1, h2, h3⟩ := hj x z
          exact ⟨j, h1, h2, by omega⟩
        · have z : x ∈ r' := by simpa using z
          obtain ⟨j, h1, h2, h3⟩ := bm x (pm.mem_iff.mp z)
          exact ⟨j, h1, h2, by omega⟩
    · walk_at "rd"
      exact ⟨xs, B, _, _, rfl, c.trans (.of s23), pu.same s23, s23 _ _ hD, all2_mono (off_mono s23) aD, ⟨by omega, hB.ne, hB.inn, hB.nd⟩, fun x hx => by
        obtain ⟨j, h1, h2, h3⟩ := hj x hx
        exact ⟨j, h1, h2, by omega⟩⟩
  · rintro σ H' ⟨xs, B, e6, e7, rfl, c, pu, hD, aD, hB, hj⟩
    walk_at "rd"
    exact k D xs B H' (c1.trans c) pu (c1.fresh p1 nD) hD aD hB
/-! ### the rest, the whole -/
def restOf (w : Nat) (B : Mat) : Row := ((List.range (w + 1)).filter fun (n : Nat) => !decide ((n : Int) ∈ B.flatten)).map fun (n : Nat) => (n : Int)
def wholeOf (w : Nat) (B : Mat) : Mat := B ++ [restOf w B]
theorem restOf_len {w : Nat} {B : Mat} : (restOf w B).length ≤ w + 1 := by
  unfold restOf
  rw [List.length_map]
  have := List.length_filter_le (fun n : Nat => !decide ((n : Int) ∈ B.flatten)) (List.range (w + 1))
  rw [List.length_range] at this
  exact this
end
end G
end
section
set_option Elab.async false
set_option linter.all false
set_option maxRecDepth 100000
namespace G
open PySem L2 PyProof.Rows
local macro_rules | `(tactic| walk_at "rd") => `(tactic| repeat (first
  | (with_reducible refine v_seq ?_)
  | (with_reducible refine v_asg ?_)
  | (with_reducible refine w_cons ?_)
  | (with_reducible refine w_nil ?_)
  | (with_reducible refine w_op ?_)
  | (with_reducible refine w_c ?_)
  | (with_reducible refine w_I0 ?_)
  | (with_reducible refine w_cb ?_)
  | (with_reducible refine w_call ?_)
  | (with_reducible refine v_ret ?_)
  | (with_reducible refine v_next ?_)
  | (with_reducible refine w_ixR (by assumption) (by assumption) ?_)
  | (with_reducible refine w_ix (by assumption) (by assumption) ?_)
  | (with_reducible refine w_test ?_)
  | (with_reducible refine w_tB ?_)
  | (with_reducible refine w_and ?_)
  | (with_reducible refine w_or ?_)
  | (with_reducible refine w_not ?_)
  | (with_reducible refine w_ifE ?_)
  | (with_reducible refine v_ifS ?_)
  | (with_reducible refine w_tt ?_)
  | (with_reducible refine w_ff ?_)
  | (with_reducible refine w_eqI ?_)
  | (with_reducible refine w_neI ?_)
  | (with_reducible refine w_U ?_)
  | (with_reducible refine w_un ?_)
  | (with_reducible refine w_len (by assumption) ?_)
  | (with_reducible refine w_abs ?_)
  | (with_reducible refine w_int ?_)
  | (with_reducible refine w_isN0 ?_)
  | (with_reducible refine w_isN1 (by assumption) ?_)
  | (with_reducible refine w_isN1 ne_in ?_)
  | (with_reducible refine w_isN1 ne_rn ?_)
  | (with_reducible refine w_notN0 ?_)
  | (with_reducible refine w_notN1 ne_in ?_)
  | (with_reducible refine w_notN1 ne_rn ?_)
  | (with_reducible refine v_lst ?_)
  | (with_reducible refine v_tup ?_)
  | (with_reducible refine w_notN1 (by assumption) ?_)
  | (with_reducible refine v_drop ?_)
  | (with_reducible refine w_bm ?_)
  | (with_reducible refine v_for ?_)
  | (with_reducible refine v_rng1 ?_)
  | (with_reducible refine v_rng2 ?_)
  | (with_reducible refine v_list ?_)
  | (with_reducible refine w_sub ?_)
  | (with_reducible refine v_ip ?_)
  | (with_reducible refine v_augS ?_)
  | (with_reducible refine v_retN ?_)
  | (with_reducible refine w_yes ?_)
  | (with_reducible refine tv_0 ?_)
  | (with_reducible refine nv_0 ?_)
  | (with_reducible refine av_0 ?_)
  | (with_reducible refine tv_1 ?_)
  | (with_reducible refine nv_1 ?_)
  | (with_reducible refine av_1 ?_)
  | (with_reducible refine tv_2 ?_)
  | (with_reducible refine nv_2 ?_)
  | (with_reducible refine av_2 ?_)
  | (with_reducible refine tv_3 ?_)
  | (with_reducible refine nv_3 ?_)
  | (with_reducible refine av_3 ?_)
  | (with_reducible refine tv_4 ?_)
  | (with_reducible refine nv_4 ?_)
  | (with_reducible refine av_4 ?_)
  | (with_reducible refine tv_5 ?_)
  | (with_reducible refine nv_5 ?_)
  | (with_reducible refine av_5 ?_)
  | (with_reducible refine tv_6 ?_)
  | (with_reducible refine nv_6 ?_)
  | (with_reducible refine av_6 ?_)
  | (with_reducible refine tv_7 ?_)
  | (with_reducible refine nv_7 ?_)
  | (with_reducible refine av_7 ?_)
  | (with_reducible refine tv_8 ?_)
  | (with_reducible refine nv_8 ?_)
  | (with_reducible refine av_8 ?_)
  | (with_reducible refine tv_9 ?_)
  | (with_reducible refine nv_9 ?_)
  | (with_reducible refine av_9 ?_)
  | (with_reducible refine tv_10 ?_)
  | (with_reducible refine nv_10 ?_)
  | (with_reducible refine av_10 ?_)
  | (with_reducible refine tv_11 ?_)
  | (with_reducible refine nv_11 ?_)
  | (with_reducible refine av_11 ?_)
  | (with_reducible refine tv_12 ?_)
  | (with_reducible refine nv_12 ?_)
  | (with_reducible refine av_12 ?_)
  | (with_reducible refine tv_13 ?_)
  | (with_reducible refine nv_13 ?_)
  | (with_reducible refine av_13 ?_)
  | (with_reducible refine tv_14 ?_)
  | (with_reducible refine nv_14 ?_)
  | (with_reducible refine av_14 ?_)
  | (with_reducible refine tv_15 ?_)
  | (with_reducible refine nv_15 ?_)
  | (with_reducible refine av_15 ?_)
  | (with_reducible refine tv_16 ?_)
  | (with_reducible refine nv_16 ?_)
  | (with_reducible refine av_16 ?_)
  | (with_reducible refine tv_17 ?_)
  | (with_reducible refine nv_17 ?_)
  | (with_reducible refine av_17 ?_)
  | (with_reducible refine tv_18 ?_)
  | (with_reducible refine nv_18 ?_)
  | (with_reducible refine av_18 ?_)
  | (with_reducible refine tv_19 ?_)
  | (with_reducible refine nv_19 ?_)
  | (with_reducible refine av_19 ?_)
  | (with_reducible refine tv_20 ?_)
  | (with_reducible refine nv_20 ?_)
  | (with_reducible refine av_20 ?_)
  | (with_reducible refine tv_21 ?_)
  | (with_reducible refine nv_21 ?_)
  | (with_reducible refine av_21 ?_)
  | (with_reducible refine tv_22 ?_)
  | (with_reducible refine nv_22 ?_)
  | (with_reducible refine av_22 ?_)
  | (with_reducible refine tv_23 ?_)
  | (with_reducible refine nv_23 ?_)
  | (with_reducible refine av_23 ?_)
  | (with_reducible refine tv_24 ?_)
  | (with_reducible refine nv_24 ?_)
  | (with_reducible refine av_24 ?_)
  | (with_reducible refine tv_25 ?_)
  | (with_reducible refine nv_25 ?_)
  | (with_reducible refine av_25 ?_)
  | (with_reducible refine ⟨_, rfl, ⟨_, SqL.of (by assumption)⟩, ?_⟩)
  | (with_reducible refine ⟨_, rfl, (by omega), (by omega), ?_⟩)
  | (with_reducible refine ⟨w_tyL (by assumption), ?_⟩)
  | (with_reducible refine w_isiII ?_)
  | (with_reducible refine w_isiIB ?_)
  | (with_reducible refine w_isiBB ?_)
  | (with_reducible refine w_isiBI ?_)
  | (with_reducible refine w_isiNL ?_)
  | (with_reducible refine w_isiLL (by assumption) ?_)
  | (with_reducible refine v_sl ?_)
  | (with_reducible refine w_nff ?_)
  | (with_reducible refine w_ntt ?_)
  | (with_reducible refine v_chain ?_)
  | (with_reducible refine v_andV ?_)
  | (with_reducible refine v_orV ?_)
  | (with_reducible refine v_chain3 ?_)
  | (with_reducible refine w_min2 ?_)
  | (with_reducible refine v_lstRg ?_)
  | (with_reducible refine w_in (by assumption) ?_)
  | (with_reducible refine w_nin (by assumption) ?_)
  | (with_reducible refine v_notV ?_)
  | (with_reducible refine v_noP ?_)
  | (with_reducible refine v_part ?_)
  | (with_reducible refine v_fld ?_)
  | (with_reducible refine v_sfld ?_)
  | (with_reducible refine ⟨_, (rfl : V.bl _ = V.bl _), ?_⟩)
  | (with_reducible refine ⟨_, (rfl : V.ref _ = V.ref _), ?_⟩)
  | (with_reducible refine ⟨_, (rfl : [V.int _] = [V.int _]), ?_⟩)
  | (with_reducible refine ⟨_, (rfl : V.int _ = V.int _), ?_⟩)
  | (with_reducible refine ⟨⟨_, SqL.of (by assumption)⟩, ?_⟩)
  | (with_reducible refine ⟨(by (first | omega | (rw [lenV]; omega)) : -(2 ^ 62) ≤ _), (by first | omega | (rw [lenV]; omega)), ?_⟩)
  | (with_reducible refine v_meth ?_)
  | (with_reducible refine v_make ?_)
  | (with_reducible refine w_neBB ?_)
  | (with_reducible refine w_eqBB ?_)
  | (with_reducible refine w_isiRI (by assumption) ?_)
  ))
/-- the first block with a node, or how many there are -/
def bOf : Mat → Int → Nat
  | [], _ => 0
  | b :: B, z => if z ∈ b then 0 else bOf B z + 1
theorem bOf_le : ∀ (B : Mat) (z : Int), bOf B z ≤ B.length
  | [], _ => Nat.le_refl _
  | b :: B, z => by
    unfold bOf
    have := bOf_le B z
    split
    · exact Nat.zero_le _
    · rw [List.length_cons]; omega
theorem bOf_at : ∀ {B : Mat} {z : Int} {i : Nat}, i < B.length → z ∈ B.getD i [] → (∀ j, j < i → z ∉ B.getD j []) → bOf B z = i
  | [], _, _, h, _, _ => by simp at h
  | b :: B, z, 0, _, h, _ => by
    have h : z ∈ b := h
    unfold bOf
    rw [if_pos h]
  | b :: B, z, i + 1, hi, h, hn => by
    have h0 : z ∉ b := hn 0 (by omega)
    unfold bOf
    rw [if_neg h0, bOf_at (B := B) (i := i) (by simpa using hi) h fun j hj => hn (j + 1) (by omega)]
theorem bOf_no : ∀ {B : Mat} {z : Int}, (∀ j, j < B.length → z ∉ B.getD j []) → bOf B z = B.length
  | [], _, _ => rfl
  | b :: B, z, hn => by
    have h0 : z ∉ b := hn 0 (by simp)
    unfold bOf
    rw [if_neg h0, bOf_no (B := B) fun j hj => hn (j + 1) (by simpa using hj)]
    rfl
theorem bOf_mem : ∀ {B : Mat} {z : Int}, bOf B z < B.length → z ∈ B.getD (bOf B z) []
  | [], _, h => by simp at h
  | b :: B, z, h => by
    unfold bOf at *
    by_cases q : z ∈ b
    · rw [if_pos q]; exact q
    · rw [if_neg q] at h ⊢
      exact bOf_mem (B := B) (by simpa using h)
theorem bOf_flat : ∀ {B : Mat} {z : Int}, bOf B z = B.length ↔ z ∉ B.flatten
  | [], z => by simp [bOf]
  | b :: B, z => by
    unfold bOf
    have ih := bOf_flat (B := B) (z := z)
    rw [List.flatten_cons, List.mem_append]
    by_cases q : z ∈ b
    · rw [if_pos q]
      simp [q]
    · rw [if_neg q, List.length_cons]
      constructor
      · intro h z
        exact z.elim q (ih.mp (by omega))
      · intro h
        rw [ih.mpr fun z => h (.inr z)]
section
variable {Z : Ctx} {vs : List V} {H : Hp} {Q : VK} {E : XK}
theorem rows_of_range {m : Mat} {n : Nat} (h : n = m.length) : (List.range n).map (fun i => m.getD i []) = m := by rw [h, list_eq_range]
def sp_law_whole_blocks (Z : Ctx) : Sp := fun vs H Q _ => ∃ v, ∃ w : Nat, ∃ B : Mat, ∃ M : Addr → Prop, vs = [.int (w : Int), v] ∧ (∀ a, M a → dom H a) ∧ rep (off H M) v B ∧ w ≤ 1000 ∧ B.length ≤ 1000 ∧ NewV M H (wholeOf w B) Q
abbrev r_law_whole_blocks (Z : Ctx) : TS := (tSeq (tAsg (tLc (iRng1 (tCons (tOp rAddI (tVar 0) (tC (.int 1))) tNil)) (gName 3) (tTest (tOp (rEqD Z.K) (tLc (iList Z.K (tVar 1)) (gName 4) (tTest (tOp (rIn Z.K false) (tVar 3) (tVar 4))) (tVar 4) [4]) (tLst tNil))) (tVar 3) [3]) (gName 2)) (tRet (tOp rCat (tVar 1) (tLst (tCons (tVar 2) tNil)))))
theorem ln_law_whole_blocks : sp_law_whole_blocks Z vs H Q E → vs.length = 2 := by rintro ⟨_, _, _, _, rfl, _⟩; rfl
abbrev nm_law_whole_blocks : List Str := ["books", "blocks", "rest", "node", "block"]
theorem rd_law_whole_blocks (h : sp_law_whole_blocks Z vs H Q E) : r_law_whole_blocks Z (ends Q) (L2.start nm_law_whole_blocks vs) H := by
  obtain ⟨v, w, B, M, rfl, hM, ⟨l, xs, rfl, hl, ha⟩, hw, hB, k⟩ := h
  have hlen := ha.len
  have hl0 := off_same _ _ hl
  show r_law_whole_blocks Z (ends Q) [some (.int (w : Int)), some (.ref l), none, none, none] H
  unfold r_law_whole_blocks ends
  walk_at "rd"
  refine lcRF (β := Int) (n := w + 1) (fun R h => by
      walk_at "rd"
      rw [show ((w : Int) + 1).toNat = w + 1 by omega]
      exact h) M (fun n => !decide ((n : Int) ∈ B.flatten)) (fun n => (n : Int)) (by omega) hM (fun _ => rfl) (fun i H1 hi s1 R k1 => ?_) (fun i H1 M1 hi hf s1 _ _ R k1 => ?_) ?_
  · have hl1 := s1 _ _ hl0
    show tTest _ [some (.int (w : Int)), some (.ref l), none, some (.int (i : Int)), none] H1 R
    walk_at "rd"
    refine lcLF (β := Row) (xs := xs) (fun R h => by walk_at "rd"; exact h) (fun _ => False) (fun j => decide ((i : Int) ∈ B.getD j [])) (fun j => B.getD j []) (SqL.of hl1) (by omega) (fun _ h => h.elim) (fun _ => rfl) (fun j x H2 hj s2 R2 k2 => ?_) (fun j x H2 M2 hj hf s2 so _ R2 k2 => ?_) ?_
    · have hi2 := (List.getElem?_eq_some_iff.mp hj).1
      obtain ⟨q, g1, g2⟩ := mat_at ha (i := j) (by omega)
      rw [g1] at hj
      cases hj
      have g3 := s2 _ _ (s1 _ _ (off_same _ _ g2))
      show tTest _ [some (.int (w : Int)), some (.ref l), none, some (.int (i : Int)), some (.ref q)] H2 R2
      walk_at "rd"
      exact k2 _ (.refl _)
    · have hi2 := (List.getElem?_eq_some_iff.mp hj).1
      obtain ⟨q, g1, g2⟩ := mat_at ha (i := j) (by omega)
      rw [g1] at hj
      cases hj
      show tVar 4 [some (.int (w : Int)), some (.ref l), none, some (.int (i : Int)), some (.ref q)] H2 R2
      walk_at "rd"
      exact k2 _ _ (.refl _) (rep_row_of (so _ _ (off_in (fun z => z) (s1 _ _ (off_same _ _ g2)))))
    · intro q2 x2 H2 s2 n2 e2 a2
      walk_at "rd"
      refine ⟨by decide, fun l3 n3 => ?_⟩
      have s3 := same_new (o := .lst []) n3
      refine w_eqD (α := Mat) (b := []) ⟨q2, x2, rfl, s3 _ _ e2, all2_mono (off_same.trans s3) a2⟩ ⟨l3, [], rfl, upd_same, trivial⟩ ?_
      refine ⟨_, rfl, ?_⟩
      have e : decide ((((List.range xs.length).filter fun j => decide ((i : Int) ∈ B.getD j [])).map fun j => B.getD j []) = []) = !decide ((i : Int) ∈ B.flatten) := by
        by_cases q : (i : Int) ∈ B.flatten
        · rw [decide_eq_true q]
          refine decide_eq_false fun z => ?_
          rw [List.map_eq_nil_iff, List.filter_eq_nil_iff] at z
          obtain ⟨b, hb, hi3⟩ := List.mem_flatten.mp q
          obtain ⟨j, hj, rfl⟩ := mem_getD hb
          exact z j (List.mem_range.mpr (by omega)) (decide_eq_true hi3)
        · rw [decide_eq_false q]
          refine decide_eq_true ?_
          rw [List.map_eq_nil_iff, List.filter_eq_nil_iff]
          intro j hj z
          exact q (List.mem_flatten.mpr ⟨_, getD_mem (by have := List.mem_range.mp hj; omega), of_decide_eq_true z⟩)
      rw [e]
      exact k1 _ (s2.trans s3)
  · show tVar 3 [some (.int (w : Int)), some (.ref l), none, some (.int (i : Int)), none] H1 R
    walk_at "rd"
    exact k1 _ _ (.refl _) rfl
  intro q1 x1 H1 s1 n1 e1 a1
  rw [all2_ints.mp a1] at e1
  have rl := restOf_len (w := w) (B := B)
  have er : H1 q1 = some (.lst ((restOf w B).map V.int)) := e1
  have hl1 := s1 _ _ hl0
  walk_at "rd"
  refine ⟨small _ (by simp), fun l2 n2 => ?_⟩
  have s2 := same_new (o := .lst [V.ref q1]) n2
  have e2 : (upd H1 l2 (.lst [V.ref q1])) l2 = some (.lst [V.ref q1]) := upd_same
  have er2 := s2 _ _ er
  generalize upd H1 l2 (.lst [V.ref q1]) = H2 at s2 e2 er2
  refine w_cat (s2 _ _ hl1) e2 (by simp; omega) fun l3 n3 => ?_
  have s3 := same_new (o := .lst (xs ++ [V.ref q1])) n3
  have s13 := s1.trans (s2.trans s3)
  refine k _ _ s13 ⟨l3, xs ++ [V.ref q1], rfl, off_in (fun z => hM _ z (s1.free (s2.free n3))) upd_same, (all2_mono (off_mono s13) ha).snoc (rep_row_of (off_in (fun z => hM _ z n1) (s3 _ _ er2)))⟩
def sp_block_of (Z : Ctx) : Sp := fun vs H Q _ => ∃ v, ∃ z : Int, ∃ B : Mat, vs = [v, .int z] ∧ rep H v B ∧ B.length ≤ 1000 ∧ Q (.int ((bOf B z : Nat) : Int)) H
abbrev r_block_of (Z : Ctx) : TS := (tSeq (tFor (iRng1 (tCons (tCB (rLenG Z.K) (tCons (tVar 0) tNil)) tNil)) (gName 2) (tIfS (tTest (tOp (rIn Z.K false) (tVar 1) (tOp (rIxG Z.K) (tVar 0) (tVar 2)))) (tRet (tVar 2)) tNext)) (tRet (tCB (rLenG Z.K) (tCons (tVar 0) tNil))))
theorem ln_block_of : sp_block_of Z vs H Q E → vs.length = 2 := by rintro ⟨_, _, _, rfl, _⟩; rfl
abbrev nm_block_of : List Str := ["blocks", "book", "number"]
theorem rd_block_of (h : sp_block_of Z vs H Q E) : r_block_of Z (ends Q) (L2.start nm_block_of vs) H := by
  obtain ⟨v, z, B, rfl, ⟨l, xs, rfl, hl, ha⟩, hB, k⟩ := h
  have hlen := ha.len
  show r_block_of Z (ends Q) [some (.ref l), some (.int z), none] H
  unfold r_block_of ends
  walk_at "rd"
  refine forR (n := xs.length) (fun i σ H' => ∃ e, σ = [some (.ref l), some (.int z), e] ∧ H' = H ∧ ∀ j, j < i → z ∉ B.getD j []) ⟨_, rfl, rfl, fun j hj => by omega⟩ ?_ ?_
  · rintro i σ H' hi ⟨e, rfl, rfl, hn⟩
    obtain ⟨q, g1, g2⟩ := mat_at ha (i := i) (by omega)
    show tIfS _ _ _ _ [some (.ref l), some (.int z), some (.int (i : Int))] H'
    walk_at "rd"
    refine w_ite (fun h => ?_) (fun h => ?_)
    · walk_at "rd"
      rw [bOf_at (by omega) h hn] at k
      exact k
    · walk_at "rd"
      refine ⟨_, rfl, rfl, fun j hj => ?_⟩
      by_cases q : j = i
      · rw [q]; exact h
      · exact hn j (by omega)
  · rintro σ H' ⟨e, rfl, rfl, hn⟩
    walk_at "rd"
    rw [bOf_no (by rw [← hlen]; exact hn), ← hlen] at k
    exact k
def sp_all_blocks (Z : Ctx) : Sp := fun vs H Q _ => ∃ u v, ∃ w m : Nat, ∃ st : Row, ∃ L D : List Ln, ∃ K : List Lk, ∃ B : Mat, ∃ M : Addr → Prop, vs = [u, v] ∧ PlanAt Z H u w m st L D K ∧ rep (off H M) v B ∧ (∀ a, M a → dom H a) ∧ w ≤ 1000 ∧ B.length ≤ 1000 ∧ NewV M H (wholeOf w B) Q
abbrev r_all_blocks (Z : Ctx) : TS := (tSeq (tAsg (tLc (iRng1 (tCons (tOp rAddI (tFld Z.K (tVar 0) "book_count") (tC (.int 1))) tNil)) (gName 3) (tTest (tOp rEq (tCall (sp_block_of Z) [] E0 (tCons (tVar 1) (tCons (tVar 3) tNil))) (tCB (rLenG Z.K) (tCons (tVar 1) tNil)))) (tVar 3) [3]) (gName 2)) (tRet (tOp rCat (tLc (iList Z.K (tVar 1)) (gName 4) tYes (tCB (rLstG Z.K) (tCons (tVar 4) tNil)) [4]) (tLst (tCons (tVar 2) tNil)))))
theorem ln_all_blocks : sp_all_blocks Z vs H Q E → vs.length = 2 := by rintro ⟨_, _, _, _, _, _, _, _, _, _, rfl, _⟩; rfl
abbrev nm_all_blocks : List Str := ["plan", "blocks", "rest", "node", "block"]
theorem rd_all_blocks (PC : PlanCls Z) (h : sp_all_blocks Z vs H Q E) : r_all_blocks Z (ends Q) (L2.start nm_all_blocks vs) H := by
  obtain ⟨u, v, w, m, st, L, D, K, B, M, rfl, ⟨a, dx, v1, v2, v3, v4, rfl, h1, _⟩, hv, hM, hw, hB, k⟩ := h
  obtain ⟨l, xs, rfl, hl, ha⟩ := hv
  have hlen := ha.len
  have hl0 := off_same _ _ hl
  have rB : ∀ {H' : Hp}, Same H H' → rep H' (.ref l) B := fun s => ⟨l, xs, rfl, s _ _ hl0, all2_mono (off_same.trans s) ha⟩
  show r_all_blocks Z (ends Q) [some (.ref a), some (.ref l), none, none, none] H
  unfold r_all_blocks ends
  walk_at "rd"
  refine lcRF (β := Int) (n := w + 1) (fun R h => by
      walk_at "rd"
      refine ⟨a, _, dx, _, _, rfl, h1, PC.cl, PC.nb, lk_book, ?_⟩
      walk_at "rd"
      rw [show ((w : Int) + 1).toNat = w + 1 by omega]
      exact h) M (fun n => !decide ((n : Int) ∈ B.flatten)) (fun n => (n : Int)) (by omega) hM (fun _ => rfl) (fun i H1 hi s1 R k1 => ?_) (fun i H1 M1 hi hf s1 _ _ R k1 => ?_) ?_
  · have hl1 := s1 _ _ hl0
    show tTest _ [some (.ref a), some (.ref l), none, some (.int (i : Int)), none] H1 R
    walk_at "rd"
    refine ⟨.ref l, (i : Int), B, rfl, rB s1, hB, ?_⟩
    walk_at "rd"
    have e : decide (((bOf B (i : Int) : Nat) : Int) = (xs.length : Int)) = !decide ((i : Int) ∈ B.flatten) := by
      have := bOf_flat (B := B) (z := (i : Int))
      by_cases q : (i : Int) ∈ B.flatten
      · rw [decide_eq_true q]
        exact decide_eq_false fun z => this.mp (by omega) q
      · rw [decide_eq_false q]
        exact decide_eq_true (by have := this.mpr q; omega)
    rw [e]
    exact k1 _ (.refl _)
  · show tVar 3 [some (.ref a), some (.ref l), none, some (.int (i : Int)), none] H1 R
    walk_at "rd"
    exact k1 _ _ (.refl _) rfl
  intro q1 x1 H1 s1 n1 e1 a1
  rw [all2_ints.mp a1] at e1
  have rl := restOf_len (w := w) (B := B)
  have er : H1 q1 = some (.lst ((restOf w B).map V.int)) := e1
  have hl1 := s1 _ _ hl0
  walk_at "rd"
  refine lcCopyT (fun R h => by walk_at "rd"; exact h) M hl1 (all2_mono (off_same.trans s1) ha) (by omega) (fun a z => dom_same s1 (hM a z)) (fun _ => by rfl) (fun _ => by rfl) ?_
  intro q2 x2 H2 s2 n2 e2 a2
  have hx2 := a2.len
  walk_at "rd"
  refine ⟨small _ (by simp), fun l3 n3 => ?_⟩
  have s3 := same_new (o := .lst [V.ref q1]) n3
  have e3 : (upd H2 l3 (.lst [V.ref q1])) l3 = some (.lst [V.ref q1]) := upd_same
  have er3 := s3 _ _ (s2 _ _ er)
  have e23 := s3 _ _ e2
  generalize upd H2 l3 (.lst [V.ref q1]) = H3 at s3 e3 er3 e23
  refine w_cat e23 e3 (by simp; omega) fun l4 n4 => ?_
  have s4 := same_new (o := .lst (x2 ++ [V.ref q1])) n4
  have s14 := s1.trans (s2.trans (s3.trans s4))
  refine k _ _ s14 ⟨l4, x2 ++ [V.ref q1], rfl, off_in (fun z => hM _ z (s1.free (s2.free (s3.free n4)))) upd_same, (all2_mono (off_sub.trans (off_mono (s3.trans s4))) a2).snoc (rep_row_of (off_in (fun z => hM _ z n1) (s4 _ _ er3)))⟩
/-! ### nodes of blocks -/
def nodesOf (B : Mat) (num : Row) : Row := num.flatMap fun z => B.getD z.toNat []
def spNodes : Sp := fun vs H Q _ => ∃ v u, ∃ B : Mat, ∃ num : Row, vs = [v, u] ∧ rep H v B ∧ rep H u num ∧ (∀ z ∈ num, 0 ≤ z ∧ z < (B.length : Int)) ∧ num.length ≤ 100 ∧ (∀ b ∈ B, b.length ≤ 1000) ∧ NewR H (nodesOf B num) Q
theorem nodes_take {B : Mat} {num : Row} {i : Nat} (h : i < num.length) : nodesOf B (num.take (i + 1)) = nodesOf B (num.take i) ++ B.getD (at0 num i).toNat [] := by
  unfold nodesOf
  rw [List.take_succ, at0_get h, List.flatMap_append]
  simp
theorem nodes_len {B : Mat} {num : Row} (hb : ∀ b ∈ B, b.length ≤ 1000) : ∀ i, (nodesOf B (num.take i)).length ≤ 1000 * i
  | 0 => by simp [nodesOf]
  | i + 1 => by
    by_cases h : i < num.length
    · rw [nodes_take h, List.length_append]
      have := nodes_len (num := num) hb i
      have h2 : (B.getD (at0 num i).toNat []).length ≤ 1000 := by
        by_cases q : (at0 num i).toNat < B.length
        · exact hb _ (getD_mem q)
        · rw [List.getD_eq_getElem?_getD, List.getElem?_eq_none (by omega)]
          simp
      omega
    · have := nodes_len (num := num) hb i
      rw [List.take_of_length_le (by omega)] at this ⊢
      omega
def sp_nodes_of (Z : Ctx) : Sp := spNodes
abbrev r_nodes_of (Z : Ctx) : TS := (tSeq (tAsg (tLst tNil) (gName 2)) (tSeq (tFor (iList Z.K (tVar 1)) (gName 3) (tAsg (tOp rCat (tVar 2) (tOp (rIxG Z.K) (tVar 0) (tVar 3))) (gName 2))) (tRet (tVar 2))))
theorem ln_nodes_of : sp_nodes_of Z vs H Q E → vs.length = 2 := by rintro ⟨_, _, _, _, rfl, _⟩; rfl
abbrev nm_nodes_of : List Str := ["whole", "numbers", "nodes", "number"]
theorem rd_nodes_of (h : sp_nodes_of Z vs H Q E) : r_nodes_of Z (ends Q) (L2.start nm_nodes_of vs) H := by
  obtain ⟨v, u, B, num, rfl, ⟨l, xs, rfl, hl, ha⟩, hu, hn, hz, hb, k⟩ := h
  obtain ⟨p, rfl, hp⟩ := rep_row.mp hu
  have hlen := ha.len
  show r_nodes_of Z (ends Q) [some (.ref l), some (.ref p), none, none] H
  unfold r_nodes_of ends
  walk_at "rd"
  refine ⟨by decide, fun D nD => ?_⟩
  have sD := same_new (o := .lst []) nD
  have eD : (upd H D (.lst [])) D = some (.lst []) := upd_same
  generalize upd H D (.lst []) = H0 at sD eD
  have hp0 := sD _ _ hp
  walk_at "rd"
  refine forL (xs := num.map V.int) (fun i σ H' => ∃ q e, σ = [some (.ref l), some (.ref p), some (.ref q), e] ∧ Same H H' ∧ H q = none ∧ H' q = some (.lst ((nodesOf B (num.take i)).map V.int))) ⟨_, _, rfl, sD, nD, eD⟩ (fun i σ H' _ ⟨_, _, _, s, _, _⟩ => SqL.of (s _ _ hp)) ?_ ?_
  · rintro i x σ H' hi ⟨q, e, rfl, s, nq, eq⟩
    obtain ⟨z, hz2, rfl⟩ := row_at hi
    have hi2 := (List.getElem?_eq_some_iff.mp hz2).1
    obtain ⟨b1, b2⟩ := hn z (List.mem_of_getElem? hz2)
    obtain rfl := at0_some hz2
    obtain ⟨y, g1, g2⟩ := mat_at ha (i := (at0 num i).toNat) (by omega)
    have hl' := s _ _ hl
    have g2 := s _ _ g2
    have nl := nodes_len (num := num) hb i
    have bl := hb _ (getD_mem (i := (at0 num i).toNat) (m := B) (by omega))
    walk_at "rd"
    refine w_ixAt (at0 num i).toNat _ (by omega) hl' g1 ?_
    refine w_cat eq g2 (by rw [lenV, lenV]; omega) fun q2 n2 => ?_
    walk_at "rd"
    refine ⟨_, _, rfl, s.trans (same_new n2), s.free n2, ?_⟩
    rw [nodes_take hi2, List.map_append]
    exact upd_same
  · rintro σ H' ⟨q, e, rfl, s, nq, eq⟩
    rw [lenV, List.take_length] at eq
    walk_at "rd"
    exact k q H' s nq eq
def sp_law_joined_blocks (Z : Ctx) : Sp := spNodes
abbrev r_law_joined_blocks (Z : Ctx) : TS := (tSeq (tAsg (tLst tNil) (gName 2)) (tSeq (tFor (iList Z.K (tVar 1)) (gName 3) (tAsg (tOp rCat (tVar 2) (tOp (rIxG Z.K) (tVar 0) (tVar 3))) (gName 2))) (tRet (tVar 2))))
theorem ln_law_joined_blocks : sp_law_joined_blocks Z vs H Q E → vs.length = 2 := by rintro ⟨_, _, _, _, rfl, _⟩; rfl
abbrev nm_law_joined_blocks : List Str := ["whole", "numbers", "nodes", "number"]
theorem rd_law_joined_blocks (h : sp_law_joined_blocks Z vs H Q E) : r_law_joined_blocks Z (ends Q) (L2.start nm_law_joined_blocks vs) H := rd_nodes_of h
end
end G
end
section
set_option Elab.async false
set_option linter.all false
set_option maxRecDepth 100000
namespace G
open PySem L2 PyProof.Rows
local macro_rules | `(tactic| walk_at "rd") => `(tactic| repeat (first
  | (with_reducible refine v_seq ?_)
  | (with_reducible refine v_asg ?_)
  | (with_reducible refine w_cons ?_)
  | (with_reducible refine w_nil ?_)
  | (with_reducible refine w_op ?_)
  | (with_reducible refine w_c ?_)
  | (with_reducible refine w_I0 ?_)
  | (with_reducible refine w_cb ?_)
  | (with_reducible refine w_call ?_)
  | (with_reducible refine v_ret ?_)
  | (with_reducible refine v_next ?_)
  | (with_reducible refine w_ixR (by assumption) (by assumption) ?_)
  | (with_reducible refine w_ix (by assumption) (by assumption) ?_)
  | (with_reducible refine w_test ?_)
  | (with_reducible refine w_tB ?_)
  | (with_reducible refine w_and ?_)
  | (with_reducible refine w_or ?_)
  | (with_reducible refine w_not ?_)
  | (with_reducible refine w_ifE ?_)
  | (with_reducible refine v_ifS ?_)
  | (with_reducible refine w_tt ?_)
  | (with_reducible refine w_ff ?_)
  | (with_reducible refine w_eqI ?_)
  | (with_reducible refine w_neI ?_)
  | (with_reducible refine w_U ?_)
  | (with_reducible refine w_un ?_)
  | (with_reducible refine w_len (by assumption) ?_)
  | (with_reducible refine w_abs ?_)
  | (with_reducible refine w_int ?_)
  | (with_reducible refine w_isN0 ?_)
  | (with_reducible refine w_isN1 (by assumption) ?_)
  | (with_reducible refine w_isN1 ne_in ?_)
  | (with_reducible refine w_isN1 ne_rn ?_)
  | (with_reducible refine w_notN0 ?_)
  | (with_reducible refine w_notN1 ne_in ?_)
  | (with_reducible refine w_notN1 ne_rn ?_)
  | (with_reducible refine v_lst ?_)
  | (with_reducible refine v_tup ?_)
  | (with_reducible refine w_notN1 (by assumption) ?_)
  | (with_reducible refine v_drop ?_)
  | (with_reducible refine w_bm ?_)
  | (with_reducible refine v_for ?_)
  | (with_reducible refine v_rng1 ?_)
  | (with_reducible refine v_rng2 ?_)
  | (with_reducible refine v_list ?_)
  | (with_reducible refine w_sub ?_)
  | (with_reducible refine v_ip ?_)
  | (with_reducible refine v_augS ?_)
  | (with_reducible refine v_retN ?_)
  | (with_reducible refine w_yes ?_)
  | (with_reducible refine tv_0 ?_)
  | (with_reducible refine nv_0 ?_)
  | (with_reducible refine av_0 ?_)
  | (with_reducible refine tv_1 ?_)
  | (with_reducible refine nv_1 ?_)
  | (with_reducible refine av_1 ?_)
  | (with_reducible refine tv_2 ?_)
  | (with_reducible refine nv_2 ?_)
  | (with_reducible refine av_2 ?_)
  | (with_reducible refine tv_3 ?_)
  | (with_reducible refine nv_3 ?_)
  | (with_reducible refine av_3 ?_)
  | (with_reducible refine tv_4 ?_)
  | (with_reducible refine nv_4 ?_)
  | (with_reducible refine av_4 ?_)
  | (with_reducible refine tv_5 ?_)
  | (with_reducible refine nv_5 ?_)
  | (with_reducible refine av_5 ?_)
  | (with_reducible refine tv_6 ?_)
  | (with_reducible refine nv_6 ?_)
  | (with_reducible refine av_6 ?_)
  | (with_reducible refine tv_7 ?_)
  | (with_reducible refine nv_7 ?_)
  | (with_reducible refine av_7 ?_)
  | (with_reducible refine tv_8 ?_)
  | (with_reducible refine nv_8 ?_)
  | (with_reducible refine av_8 ?_)
  | (with_reducible refine tv_9 ?_)
  | (with_reducible refine nv_9 ?_)
  | (with_reducible refine av_9 ?_)
  | (with_reducible refine tv_10 ?_)
  | (with_reducible refine nv_10 ?_)
  | (with_reducible refine av_10 ?_)
  | (with_reducible refine tv_11 ?_)
  | (with_reducible refine nv_11 ?_)
  | (with_reducible refine av_11 ?_)
  | (with_reducible refine tv_12 ?_)
  | (with_reducible refine nv_12 ?_)
  | (with_reducible refine av_12 ?_)
  | (with_reducible refine tv_13 ?_)
  | (with_reducible refine nv_13 ?_)
  | (with_reducible refine av_13 ?_)
  | (with_reducible refine tv_14 ?_)
  | (with_reducible refine nv_14 ?_)
  | (with_reducible refine av_14 ?_)
  | (with_reducible refine tv_15 ?_)
  | (with_reducible refine nv_15 ?_)
  | (with_reducible refine av_15 ?_)
  | (with_reducible refine tv_16 ?_)
  | (with_reducible refine nv_16 ?_)
  | (with_reducible refine av_16 ?_)
  | (with_reducible refine tv_17 ?_)
  | (with_reducible refine nv_17 ?_)
  | (with_reducible refine av_17 ?_)
  | (with_reducible refine tv_18 ?_)
  | (with_reducible refine nv_18 ?_)
  | (with_reducible refine av_18 ?_)
  | (with_reducible refine tv_19 ?_)
  | (with_reducible refine nv_19 ?_)
  | (with_reducible refine av_19 ?_)
  | (with_reducible refine tv_20 ?_)
  | (with_reducible refine nv_20 ?_)
  | (with_reducible refine av_20 ?_)
  | (with_reducible refine tv_21 ?_)
  | (with_reducible refine nv_21 ?_)
  | (with_reducible refine av_21 ?_)
  | (with_reducible refine tv_22 ?_)
  | (with_reducible refine nv_22 ?_)
  | (with_reducible refine av_22 ?_)
  | (with_reducible refine tv_23 ?_)
  | (with_reducible refine nv_23 ?_)
  | (with_reducible refine av_23 ?_)
  | (with_reducible refine tv_24 ?_)
  | (with_reducible refine nv_24 ?_)
  | (with_reducible refine av_24 ?_)
  | (with_reducible refine tv_25 ?_)
  | (with_reducible refine nv_25 ?_)
  | (with_reducible refine av_25 ?_)
  | (with_reducible refine ⟨_, rfl, ⟨_, SqL.of (by assumption)⟩, ?_⟩)
  | (with_reducible refine ⟨_, rfl, (by omega), (by omega), ?_⟩)
  | (with_reducible refine ⟨w_tyL (by assumption), ?_⟩)
  | (with_reducible refine w_isiII ?_)
  | (with_reducible refine w_isiIB ?_)
  | (with_reducible refine w_isiBB ?_)
  | (with_reducible refine w_isiBI ?_)
  | (with_reducible refine w_isiNL ?_)
  | (with_reducible refine w_isiLL (by assumption) ?_)
  | (with_reducible refine v_sl ?_)
  | (with_reducible refine w_nff ?_)
  | (with_reducible refine w_ntt ?_)
  | (with_reducible refine v_chain ?_)
  | (with_reducible refine v_andV ?_)
  | (with_reducible refine v_orV ?_)
  | (with_reducible refine v_chain3 ?_)
  | (with_reducible refine w_min2 ?_)
  | (with_reducible refine v_lstRg ?_)
  | (with_reducible refine w_in (by assumption) ?_)
  | (with_reducible refine w_nin (by assumption) ?_)
  | (with_reducible refine v_notV ?_)
  | (with_reducible refine v_noP ?_)
  | (with_reducible refine v_part ?_)
  | (with_reducible refine v_fld ?_)
  | (with_reducible refine v_sfld ?_)
  | (with_reducible refine ⟨_, (rfl : V.bl _ = V.bl _), ?_⟩)
  | (with_reducible refine ⟨_, (rfl : V.ref _ = V.ref _), ?_⟩)
  | (with_reducible refine ⟨_, (rfl : [V.int _] = [V.int _]), ?_⟩)
  | (with_reducible refine ⟨_, (rfl : V.int _ = V.int _), ?_⟩)
  | (with_reducible refine ⟨⟨_, SqL.of (by assumption)⟩, ?_⟩)
  | (with_reducible refine ⟨(by (first | omega | (rw [lenV]; omega)) : -(2 ^ 62) ≤ _), (by first | omega | (rw [lenV]; omega)), ?_⟩)
  | (with_reducible refine v_meth ?_)
  | (with_reducible refine v_make ?_)
  | (with_reducible refine w_neBB ?_)
  | (with_reducible refine w_eqBB ?_)
  | (with_reducible refine w_isiRI (by assumption) ?_)
  ))
/-! ### all sets, the small ones first -/
def lastR (r : Row) : Int := r.getLast?.getD 0
def ext (T one : Row) : Mat := (T.filter fun x => decide (one = [] ∨ lastR one < x)).map fun x => one ++ [x]
def lev (T : Row) : Nat → Mat
  | 0 => [[]]
  | n + 1 => (lev T n).flatMap (ext T)
def sets (T : Row) : Nat → Mat
  | 0 => [[]]
  | n + 1 => sets T n ++ lev T (n + 1)
def Asc (T : Row) : Prop := T.Pairwise (· < ·)
theorem ext_len {T one : Row} : (ext T one).length ≤ T.length := by
  unfold ext
  rw [List.length_map]
  exact List.length_filter_le _ _
theorem flat_len {T : Row} : ∀ {m : Mat}, (m.flatMap (ext T)).length ≤ T.length * m.length
  | [] => by simp
  | x :: m => by
    rw [List.flatMap_cons, List.length_append, List.length_cons, Nat.mul_succ]
    have := ext_len (T := T) (one := x)
    have := flat_len (T := T) (m := m)
    omega
theorem lev_len {T : Row} (h : T.length ≤ 5) : ∀ n, (lev T n).length ≤ 5 ^ n
  | 0 => by simp [lev]
  | n + 1 => by
    have h1 := lev_len h n
    have h2 := flat_len (T := T) (m := lev T n)
    have h3 : T.length * (lev T n).length ≤ 5 * 5 ^ n := Nat.mul_le_mul h h1
    rw [Nat.pow_succ]
    unfold lev
    omega
theorem sets_len {T : Row} (h : T.length ≤ 5) : ∀ n, (sets T n).length ≤ 5 ^ (n + 1)
  | 0 => by simp [sets]
  | n + 1 => by
    have h1 := sets_len h n
    have h2 := lev_len h (n + 1)
    unfold sets
    rw [List.length_append, Nat.pow_succ 5 (n + 1)]
    omega
/-- rows of a level: so long, from T, ascending -/
theorem lev_mem {T : Row} : ∀ {n : Nat} {r : Row}, r ∈ lev T n → r.length = n ∧ (∀ x ∈ r, x ∈ T) ∧ Asc r ∧ ∀ x ∈ r, x ≤ lastR r
  | 0, r, h => by
    have : r = [] := by simpa [lev] using h
    subst this
    exact ⟨rfl, fun x h => absurd h (by simp), List.Pairwise.nil, fun x h => absurd h (by simp)⟩
  | n + 1, r, h => by
    unfold lev at h
    obtain ⟨one, h1, h2⟩ := List.mem_flatMap.mp h
    obtain ⟨x, h3, rfl⟩ := List.mem_map.mp h2
    obtain ⟨h4, h5⟩ := List.mem_filter.mp h3
    have h5 := of_decide_eq_true h5
    obtain ⟨g1, g2, g3, g4⟩ := lev_mem h1
    have gl : ∀ y ∈ one, y < x := fun y hy => by
      rcases h5 with h5 | h5
      · rw [h5] at hy; cases hy
      · have := g4 y hy
        omega
    have el : lastR (one ++ [x]) = x := by unfold lastR; simp
    refine ⟨by rw [List.length_append, g1]; rfl, fun y hy => ?_, List.pairwise_append.mpr ⟨g3, List.pairwise_singleton .., fun a ha b hb => by rw [List.mem_singleton.mp hb]; exact gl a ha⟩, fun y hy => ?_⟩
    · rcases List.mem_append.mp hy with z | z
      · exact g2 y z
      · rw [List.mem_singleton.mp z]; exact h4
    · rw [el]
      rcases List.mem_append.mp hy with z | z
      · exact Int.le_of_lt (gl y z)
      · rw [List.mem_singleton.mp z]; exact Int.le_refl _
theorem sets_mem {T : Row} : ∀ {n : Nat} {r : Row}, r ∈ sets T n → r.length ≤ n ∧ (∀ x ∈ r, x ∈ T) ∧ Asc r
  | 0, r, h => by
    have : r = [] := by simpa [sets] using h
    subst this
    exact ⟨Nat.le_refl _, fun x h => absurd h (by simp), List.Pairwise.nil⟩
  | n + 1, r, h => by
    unfold sets at h
    rcases List.mem_append.mp h with z | z
    · obtain ⟨h1, h2, h3⟩ := sets_mem z
      exact ⟨by omega, h2, h3⟩
    · obtain ⟨h1, h2, h3, _⟩ := lev_mem z
      exact ⟨by omega, h2, h3⟩
theorem asc_last {r : Row} {x : Int} (h : Asc (r ++ [x])) : ∀ y ∈ r, y < x := fun y hy => (List.pairwise_append.mp h).2.2 y hy x (List.mem_singleton.mpr rfl)
theorem lev_all {T : Row} : ∀ (n : Nat) (r : Row), r.length = n → (∀ x ∈ r, x ∈ T) → Asc r → r ∈ lev T n
  | 0, r, h, _, _ => by
    have : r = [] := List.eq_nil_of_length_eq_zero h
    rw [this]
    simp [lev]
  | n + 1, r, h, hT, ha => by
    obtain ⟨one, x, rfl⟩ : ∃ one x, r = one ++ [x] := by
      have : r ≠ [] := fun q => by rw [q] at h; cases h
      exact ⟨r.dropLast, r.getLast this, (List.dropLast_concat_getLast this).symm⟩
    have h1 := lev_all n one (by simpa using h) (fun y hy => hT y (List.mem_append_left _ hy)) (List.pairwise_append.mp ha).1
    unfold lev
    refine List.mem_flatMap.mpr ⟨one, h1, List.mem_map.mpr ⟨x, List.mem_filter.mpr ⟨hT x (by simp), decide_eq_true ?_⟩, rfl⟩⟩
    by_cases q : one = []
    · exact .inl q
    · right
      obtain ⟨_, _, _, g4⟩ := lev_mem h1
      have : lastR one ∈ one := by
        unfold lastR
        rw [List.getLast?_eq_some_getLast q]
        exact List.getLast_mem q
      exact asc_last ha _ this
theorem sets_all {T : Row} : ∀ {n : Nat} {r : Row}, r.length ≤ n → (∀ x ∈ r, x ∈ T) → Asc r → r ∈ sets T n
  | 0, r, h, _, _ => by
    have : r = [] := List.eq_nil_of_length_eq_zero (by omega)
    rw [this]
    simp [sets]
  | n + 1, r, h, hT, ha => by
    unfold sets
    by_cases q : r.length = n + 1
    · exact List.mem_append_right _ (lev_all _ r q hT ha)
    · exact List.mem_append_left _ (sets_all (by omega) hT ha)
theorem asc_len {r T : Row} (hr : Asc r) (hT : ∀ x ∈ r, x ∈ T) : r.length ≤ T.length := by
  have nd : r.Nodup := List.Pairwise.imp (fun h e => by omega) hr
  exact (List.Nodup.length_le_of_subset nd fun x hx => hT x hx)
theorem asc_drop : ∀ {T : Row} {j : Nat}, Asc T → j < T.length → (T.filter fun x => decide (at0 T j < x)) = T.drop (j + 1)
  | [], _, _, h => by simp at h
  | t :: T, 0, h, _ => by
    have h1 := (List.pairwise_cons.mp h).1
    have e : at0 (t :: T) 0 = t := rfl
    rw [e, List.filter_cons, if_neg (by simp), List.filter_eq_self.mpr fun x hx => decide_eq_true (h1 x hx)]
    rfl
  | t :: T, j + 1, h, hj => by
    obtain ⟨h1, h2⟩ := List.pairwise_cons.mp h
    have e : at0 (t :: T) (j + 1) = at0 T j := rfl
    have hj : j < T.length := by simpa using hj
    have := h1 (at0 T j) (List.mem_of_getElem? (at0_get hj))
    rw [e, List.filter_cons, if_neg (by simp; omega), asc_drop h2 hj]
    rfl
section
variable {Z : Ctx} {vs : List V} {H : Hp} {Q : VK} {E : XK}
theorem lcLS {σ : L2.St} {K : PySem.W.Frag} {wi : TI} {te : TE} {vs : List Nat} {j : Nat} {β : Type} [Rep β] {G : Addr → Hp → Prop} (xs : List V) (hi : ∀ R : It → Hp → Prop, (∀ q H1, G q H1 → R (Itl K q) H1) → wi σ H R) (f : Nat → β) (hx : ∀ q H1, G q H1 → SqL K H1 q xs) (hz : xs.length ≤ 1000000) (hw : ∀ x, wipe ((wipe σ vs).set j (some x)) vs = wipe σ vs)
    (he : ∀ q H1, G q H1 → ∀ (i : Nat) x H2 M1, xs[i]? = some x → Same H1 H2 → Same (off H1 (dom H1)) (off H2 M1) → (∀ a, M1 a → dom H2 a) → ∀ R : VK, (∀ v H3, Same H2 H3 → rep (off H3 M1) v (f i) → R v H3) → te ((wipe σ vs).set j (some x)) H2 R)
    (hd : ∀ q H1, G q H1 → NewL (dom H1) H1 ((List.range xs.length).map f) Q) : tLc wi (gName j) tYes te vs σ H Q := v_lc (hi _ fun q H1 g => lcL (dom H1) f (hx q H1 g) hz (fun _ h => h) hw (he q H1 g) (hd q H1 g))
/-- a list that grows at D -/
theorem grow {xs : List V} {m : Mat} {r : Row} {q D : Addr} (h : All2 (rep (off H fun a => a = D)) xs m) (e : H q = some (.lst (r.map V.int))) (n : q ≠ D) : All2 (rep (off (upd H D (.lst (xs ++ [.ref q]))) fun a => a = D)) (xs ++ [.ref q]) (m ++ [r]) := by
  rw [off_upd (M := fun a => a = D) rfl]
  exact h.snoc (rep_row_of (off_in n e))
def spSets : Sp := fun vs H Q _ => ∃ v, ∃ z : Int, ∃ T : Row, vs = [v, .int z] ∧ z = (T.length : Int) ∧ rep H v T ∧ Asc T ∧ T.length ≤ 5 ∧ ∀ x H', Same H H' → rep H' x (sets T T.length) → Q x H'
def sp_sets_of (Z : Ctx) : Sp := spSets
abbrev r_sets_of (Z : Ctx) : TS := (tSeq (tAsg (tLst (tCons (tLst tNil) tNil)) (gName 2)) (tSeq (tAsg (tLst (tCons (tLst tNil) tNil)) (gName 3)) (tSeq (tFor (iRng1 (tCons (tVar 1) tNil)) (gName 4) (tSeq (tAsg (tLst tNil) (gName 5)) (tSeq (tFor (iList Z.K (tVar 3)) (gName 6) (tFor (iList Z.K (tVar 0)) (gName 7) (tIfS (tOr (tTest (tOp (rEqD Z.K) (tVar 6) (tLst tNil))) (tTest (tOp rGtI (tVar 7) (tOp (rIxL Z.K) (tVar 6) (tUn uNegI (tC (.int 1))))))) (tDrop (tBM Z.K "list" rAppend (tVar 5) (tCons (tOp rCat (tVar 6) (tLst (tCons (tVar 7) tNil))) tNil))) tNext))) (tSeq (tAsg (tOp rCat (tVar 2) (tVar 5)) (gName 2)) (tAsg (tVar 5) (gName 3)))))) (tRet (tVar 2)))))
theorem ln_sets_of : sp_sets_of Z vs H Q E → vs.length = 2 := by rintro ⟨_, _, _, rfl, _⟩; rfl
abbrev nm_sets_of : List Str := ["numbers", "most", "found", "level", "size", "longer", "row", "number"]
theorem rd_sets_of (h : sp_sets_of Z vs H Q E) : r_sets_of Z (ends Q) (L2.start nm_sets_of vs) H := by
  obtain ⟨v, _, T, rfl, rfl, hv, hT, hz, k⟩ := h
  obtain ⟨p, rfl, hp⟩ := rep_row.mp hv
  show r_sets_of Z (ends Q) [some (.ref p), some (.int (T.length : Int)), none, none, none, none, none, none] H
  unfold r_sets_of ends
  walk_at "rd"
  refine ⟨by decide, fun l1 n1 => ?_⟩
  have s1 := same_new (o := .lst []) n1
  have e1 : (upd H l1 (.lst [])) l1 = some (.lst []) := upd_same
  generalize upd H l1 (.lst []) = H1 at s1 e1
  walk_at "rd"
  refine ⟨small _ (by simp), fun l2 n2 => ?_⟩
  have s2 := same_new (o := .lst [V.ref l1]) n2
  have e2 : (upd H1 l2 (.lst [V.ref l1])) l2 = some (.lst [V.ref l1]) := upd_same
  have r2 : rep (upd H1 l2 (.lst [V.ref l1])) (.ref l2) ([[]] : Mat) := ⟨l2, _, rfl, e2, rep_row_of (r := []) (s2 _ _ e1), trivial⟩
  generalize upd H1 l2 (.lst [V.ref l1]) = H2 at s2 r2
  walk_at "rd"
  refine ⟨by decide, fun l3 n3 => ?_⟩
  have s3 := same_new (o := .lst []) n3
  have e3 : (upd H2 l3 (.lst [])) l3 = some (.lst []) := upd_same
  generalize upd H2 l3 (.lst []) = H3 at s3 e3
  walk_at "rd"
  refine ⟨small _ (by simp), fun l4 n4 => ?_⟩
  have s4 := same_new (o := .lst [V.ref l3]) n4
  have r4 : rep (upd H3 l4 (.lst [V.ref l3])) (.ref l4) ([[]] : Mat) := ⟨l4, _, rfl, upd_same, rep_row_of (r := []) (s4 _ _ e3), trivial⟩
  have s04 := s1.trans (s2.trans (s3.trans s4))
  have r2 := Rep.mono (s3.trans s4) r2
  generalize upd H3 l4 (.lst [V.ref l3]) = H4 at s4 r4 s04 r2
  walk_at "rd"
  refine forR (n := T.length) (fun i σ H' => ∃ f l e4 e5 e6 e7, σ = [some (.ref p), some (.int (T.length : Int)), some f, some l, e4, e5, e6, e7] ∧ Same H H' ∧ rep H' f (sets T i) ∧ rep H' l (lev T i)) ⟨_, _, _, _, _, _, rfl, s04, r2, r4⟩ ?_ ?_
  · rintro i σ H' hi ⟨f, l, e4, e5, e6, e7, rfl, s, ⟨fl, fx, rfl, hf, fa⟩, ⟨ll, lx, rfl, hl, la⟩⟩
    have fl1 := fa.len
    have fl2 := sets_len hz i
    have ll1 := la.len
    have ll2 := lev_len hz i
    have ll3 := lev_len hz (i + 1)
    have pw1 : 5 ^ (i + 1) ≤ 5 ^ 5 := Nat.pow_le_pow_right (by decide) (by omega)
    have pw2 : 5 ^ i ≤ 5 ^ 5 := Nat.pow_le_pow_right (by decide) (by omega)
    have pw : 5 ^ 5 = 3125 := by decide
    show tSeq _ _ _ [some (.ref p), some (.int (T.length : Int)), some (.ref fl), some (.ref ll), some (.int (i : Int)), e5, e6, e7] H'
    walk_at "rd"
    refine ⟨by decide, fun D nD => ?_⟩
    have sD := same_new (o := .lst []) nD
    have eD : (upd H' D (.lst [])) D = some (.lst []) := upd_same
    have hlD := sD _ _ hl
    walk_at "rd"
    refine forL (xs := lx) (fun j σ H'' => ∃ xs e6 e7, σ = [some (.ref p), some (.int (T.length : Int)), some (.ref fl), some (.ref ll), some (.int (i : Int)), some (.ref D), e6, e7] ∧ Same H' H'' ∧ H'' D = some (.lst xs) ∧ All2 (rep (off H'' fun a => a = D)) xs (((lev T i).take j).flatMap (ext T))) ⟨[], _, _, rfl, sD, eD, trivial⟩ (fun j σ H'' _ ⟨_, _, _, _, s', _, _⟩ => SqL.of (s' _ _ hl)) ?_ ?_
    · rintro j x σ H'' hj ⟨xs, e6, e7, rfl, s', hD, aD⟩
      have hj2 := (List.getElem?_eq_some_iff.mp hj).1
      obtain ⟨q, g1, g2⟩ := mat_at la (i := j) (by omega)
      rw [g1] at hj
      cases hj
      have hq := s' _ _ g2
      have hpp := s' _ _ (s _ _ hp)
      have etake : ((lev T i).take (j + 1)).flatMap (ext T) = ((lev T i).take j).flatMap (ext T) ++ ext T ((lev T i).getD j []) := by
        rw [List.take_succ, List.flatMap_append]
        have : (lev T i)[j]? = some ((lev T i).getD j []) := by
          rw [List.getD_eq_getElem?_getD, List.getElem?_eq_getElem (by omega)]
          rfl
        rw [this]
        simp
      have lm := lev_mem (getD_mem (i := j) (m := lev T i) (by omega))
      have ltake : (((lev T i).take j).flatMap (ext T)).length ≤ T.length * (lev T i).length := by
        have h1 := flat_len (T := T) (m := (lev T i).take j)
        rw [List.length_take] at h1
        exact Nat.le_trans h1 (Nat.mul_le_mul_left _ (Nat.min_le_right _ _))
      have l5 : T.length * (lev T i).length ≤ 5 * 3125 := Nat.mul_le_mul hz (by omega)
      have hqD : q ≠ D := fun z => by rw [z, nD] at g2; cases g2
      rw [etake]
      generalize (lev T i).getD j [] = one at hq lm
      generalize ((lev T i).take j).flatMap (ext T) = F at aD ltake
      show tFor _ _ _ _ [some (.ref p), some (.int (T.length : Int)), some (.ref fl), some (.ref ll), some (.int (i : Int)), some (.ref D), some (.ref q), e7] H''
      walk_at "rd"
      refine forL (xs := T.map V.int) (fun t σ Hx => ∃ xs e7, σ = [some (.ref p), some (.int (T.length : Int)), some (.ref fl), some (.ref ll), some (.int (i : Int)), some (.ref D), some (.ref q), e7] ∧ Same H' Hx ∧ Hx q = some (.lst (one.map V.int)) ∧ Hx D = some (.lst xs) ∧ All2 (rep (off Hx fun a => a = D)) xs (F ++ ext (T.take t) one)) ⟨xs, _, rfl, s', hq, hD, by simp [ext]; exact aD⟩ (fun t σ Hx _ ⟨_, _, _, sx, _, _, _⟩ => SqL.of (sx _ _ (s _ _ hp))) ?_ ?_
      · rintro t x σ Hx ht ⟨xs, e7, rfl, sx, hqx, hDx, aDx⟩
        obtain ⟨z, hz2, rfl⟩ := row_at ht
        have ht2 := (List.getElem?_eq_some_iff.mp hz2).1
        have axl := aDx.len
        rw [List.length_append] at axl
        have exl := ext_len (T := T.take t) (one := one)
        rw [List.length_take] at exl
        have etk : ext (T.take (t + 1)) one = ext (T.take t) one ++ (if one = [] ∨ lastR one < z then [one ++ [z]] else []) := by
          unfold ext
          rw [List.take_succ, hz2, List.filter_append, List.map_append]
          congr 1
          by_cases c : one = [] ∨ lastR one < z
          · rw [if_pos c]
            simp [c]
          · rw [if_neg c]
            simp [c]
        have no : Hx D ≠ none := fun z => by rw [hDx] at z; cases z
        show tIfS _ _ _ _ [some (.ref p), some (.int (T.length : Int)), some (.ref fl), some (.ref ll), some (.int (i : Int)), some (.ref D), some (.ref q), some (.int z)] Hx
        walk_at "rd"
        refine ⟨by decide, fun l8 n8 => ?_⟩
        have s8 := same_new (o := .lst []) n8
        have e8 : (upd Hx l8 (.lst [])) l8 = some (.lst []) := upd_same
        generalize upd Hx l8 (.lst []) = H8 at s8 e8
        have hq8 := s8 _ _ hqx
        have hD8 := s8 _ _ hDx
        have aD8 := all2_mono (off_mono (M := fun a => a = D) s8) aDx
        have sx8 := sx.trans s8
        refine w_eqD (α := Row) (a := one) (b := []) (rep_row_of hq8) (rep_row_of e8) ?_
        walk_at "rd"
        refine w_ite (fun h => ?_) (fun h => ?_)
        · walk_at "rd"
          refine ⟨small _ (by simp), fun l9 n9 => ?_⟩
          have s9 := same_new (o := .lst [V.int z]) n9
          have e9 : (upd H8 l9 (.lst [V.int z])) l9 = some (.lst [V.int z]) := upd_same
          generalize upd H8 l9 (.lst [V.int z]) = H9 at s9 e9
          have hD9 := s9 _ _ hD8
          refine w_cat (s9 _ _ hq8) e9 (by rw [lenV, lm.1]; show i + 1 ≤ _; omega) fun l10 n10 => ?_
          have s10 := same_new (o := .lst (one.map V.int ++ [V.int z])) n10
          have e10 : (upd H9 l10 (.lst (one.map V.int ++ [V.int z]))) l10 = some (.lst ((one ++ [z]).map V.int)) := by rw [List.map_append]; exact upd_same
          have n10D : l10 ≠ D := fun z => by rw [z, hD9] at n10; cases n10
          generalize upd H9 l10 (.lst (one.map V.int ++ [V.int z])) = H10 at s10 e10
          walk_at "rd"
          refine w_app (s10 _ _ hD9) (by omega) ?_
          refine ⟨_, _, rfl, same_mut (sx8.trans (s9.trans s10)) nD, by rw [upd_ne hqD]; exact s10 _ _ (s9 _ _ hq8), upd_same, ?_⟩
          rw [etk, if_pos (.inl h), ← List.append_assoc]
          exact grow (all2_mono (off_mono (s9.trans s10)) aD8) e10 n10D
        · walk_at "rd"
          have hg : (one.map V.int).getLast? = some (.int (lastR one)) := by
            rw [List.getLast?_map, List.getLast?_eq_some_getLast h]
            unfold lastR
            rw [List.getLast?_eq_some_getLast h]
            rfl
          refine w_lastA hq8 hg ?_
          walk_at "rd"
          refine w_ite (fun h2 => ?_) (fun h2 => ?_)
          · walk_at "rd"
            refine ⟨small _ (by simp), fun l9 n9 => ?_⟩
            have s9 := same_new (o := .lst [V.int z]) n9
            have e9 : (upd H8 l9 (.lst [V.int z])) l9 = some (.lst [V.int z]) := upd_same
            generalize upd H8 l9 (.lst [V.int z]) = H9 at s9 e9
            have hD9 := s9 _ _ hD8
            refine w_cat (s9 _ _ hq8) e9 (by rw [lenV, lm.1]; show i + 1 ≤ _; omega) fun l10 n10 => ?_
            have s10 := same_new (o := .lst (one.map V.int ++ [V.int z])) n10
            have e10 : (upd H9 l10 (.lst (one.map V.int ++ [V.int z]))) l10 = some (.lst ((one ++ [z]).map V.int)) := by rw [List.map_append]; exact upd_same
            have n10D : l10 ≠ D := fun z => by rw [z, hD9] at n10; cases n10
            generalize upd H9 l10 (.lst (one.map V.int ++ [V.int z])) = H10 at s10 e10
            walk_at "rd"
            refine w_app (s10 _ _ hD9) (by omega) ?_
            refine ⟨_, _, rfl, same_mut (sx8.trans (s9.trans s10)) nD, by rw [upd_ne hqD]; exact s10 _ _ (s9 _ _ hq8), upd_same, ?_⟩
            rw [etk, if_pos (.inr (by omega)), ← List.append_assoc]
            exact grow (all2_mono (off_mono (s9.trans s10)) aD8) e10 n10D
          · walk_at "rd"
            refine ⟨_, _, rfl, sx8, hq8, hD8, ?_⟩
            rw [etk, if_neg (by intro q; rcases q with q | q; exact h q; omega), List.append_nil]
            exact aD8
      · rintro σ Hx ⟨xs, e7, rfl, sx, hqx, hDx, aDx⟩
        rw [lenV, List.take_length] at aDx
        exact ⟨_, _, _, rfl, sx, hDx, aDx⟩
    · rintro σ H'' ⟨xs, e6, e7, rfl, s', hD, aD⟩
      rw [ll1, List.take_length] at aD
      have aD : All2 (rep (off H'' fun a => a = D)) xs (lev T (i + 1)) := aD
      have lD := aD.len
      walk_at "rd"
      refine w_cat (s' _ _ hf) hD (by omega) fun q2 n2 => ?_
      have s2 := same_new (o := .lst (fx ++ xs)) n2
      walk_at "rd"
      refine ⟨_, _, _, _, _, _, rfl, s.trans (s'.trans s2), ⟨q2, fx ++ xs, rfl, upd_same, (all2_mono (s'.trans s2) fa).app (all2_mono (off_same.trans s2) aD)⟩, ⟨D, xs, rfl, s2 _ _ hD, all2_mono (off_same.trans s2) aD⟩⟩
  · rintro σ H' ⟨f, l, e4, e5, e6, e7, rfl, s, hf, hl⟩
    walk_at "rd"
    exact k f H' s hf
def sp_law_sets (Z : Ctx) : Sp := spSets
abbrev r_law_sets (Z : Ctx) : TS := (tSeq (tAsg (tLst (tCons (tLst tNil) tNil)) (gName 2)) (tSeq (tAsg (tLst (tCons (tLst tNil) tNil)) (gName 3)) (tSeq (tFor (iRng1 (tCons (tCB rMin2 (tCons (tVar 1) (tCons (tCB (rLenG Z.K) (tCons (tVar 0) tNil)) tNil))) tNil)) (gName 4) (tSeq (tAsg (tLst tNil) (gName 5)) (tSeq (tFor (iList Z.K (tVar 3)) (gName 6) (tSeq (tAsg (tIf (tTest (tOp (rEqD Z.K) (tVar 6) (tLst tNil))) (tC (.int 0)) (tOp rAddI (tBM Z.K "list" (rIndex Z.K) (tVar 0) (tCons (tOp (rIxG Z.K) (tVar 6) (tOp rSubI (tCB (rLenG Z.K) (tCons (tVar 6) tNil)) (tC (.int 1)))) tNil)) (tC (.int 1)))) (gName 7)) (tAsg (tOp rCat (tVar 5) (tLc (iList Z.K (tSl (rSlL Z.K) (tVar 0) (tPart (tVar 7)) tNoPart)) (gName 8) tYes (tOp rCat (tVar 6) (tLst (tCons (tVar 8) tNil))) [8])) (gName 5)))) (tSeq (tAsg (tOp rCat (tVar 2) (tVar 5)) (gName 2)) (tAsg (tVar 5) (gName 3)))))) (tRet (tVar 2)))))
theorem ln_law_sets : sp_law_sets Z vs H Q E → vs.length = 2 := by rintro ⟨_, _, _, rfl, _⟩; rfl
abbrev nm_law_sets : List Str := ["things", "most", "found", "level", "size", "longer", "one", "start", "thing"]
theorem rd_law_sets (h : sp_law_sets Z vs H Q E) : r_law_sets Z (ends Q) (L2.start nm_law_sets vs) H := by
  obtain ⟨v, _, T, rfl, rfl, hv, hT, hz, k⟩ := h
  obtain ⟨p, rfl, hp⟩ := rep_row.mp hv
  show r_law_sets Z (ends Q) [some (.ref p), some (.int (T.length : Int)), none, none, none, none, none, none, none] H
  unfold r_law_sets ends
  walk_at "rd"
  refine ⟨by decide, fun l1 n1 => ?_⟩
  have s1 := same_new (o := .lst []) n1
  have e1 : (upd H l1 (.lst [])) l1 = some (.lst []) := upd_same
  generalize upd H l1 (.lst []) = H1 at s1 e1
  walk_at "rd"
  refine ⟨small _ (by simp), fun l2 n2 => ?_⟩
  have s2 := same_new (o := .lst [V.ref l1]) n2
  have r2 : rep (upd H1 l2 (.lst [V.ref l1])) (.ref l2) ([[]] : Mat) := ⟨l2, _, rfl, upd_same, rep_row_of (r := []) (s2 _ _ e1), trivial⟩
  generalize upd H1 l2 (.lst [V.ref l1]) = H2 at s2 r2
  walk_at "rd"
  refine ⟨by decide, fun l3 n3 => ?_⟩
  have s3 := same_new (o := .lst []) n3
  have e3 : (upd H2 l3 (.lst [])) l3 = some (.lst []) := upd_same
  generalize upd H2 l3 (.lst []) = H3 at s3 e3
  walk_at "rd"
  refine ⟨small _ (by simp), fun l4 n4 => ?_⟩
  have s4 := same_new (o := .lst [V.ref l3]) n4
  have r4 : rep (upd H3 l4 (.lst [V.ref l3])) (.ref l4) ([[]] : Mat) := ⟨l4, _, rfl, upd_same, rep_row_of (r := []) (s4 _ _ e3), trivial⟩
  have s04 := s1.trans (s2.trans (s3.trans s4))
  have r2 := Rep.mono (s3.trans s4) r2
  generalize upd H3 l4 (.lst [V.ref l3]) = H4 at s4 r4 s04 r2
  have hp4 := s04 _ _ hp
  walk_at "rd"
  rw [lenV, if_neg (Int.lt_irrefl _)]
  walk_at "rd"
  refine forR (n := T.length) (fun i σ H' => ∃ f l e4 e5 e6 e7 e8, σ = [some (.ref p), some (.int (T.length : Int)), some f, some l, e4, e5, e6, e7, e8] ∧ Same H H' ∧ rep H' f (sets T i) ∧ rep H' l (lev T i)) ⟨_, _, _, _, _, _, _, rfl, s04, r2, r4⟩ ?_ ?_
  · rintro i σ H' hi ⟨f, l, e4, e5, e6, e7, e8, rfl, s, ⟨fl, fx, rfl, hf, fa⟩, ⟨ll, lx, rfl, hl, la⟩⟩
    have fl1 := fa.len
    have fl2 := sets_len hz i
    have ll1 := la.len
    have ll2 := lev_len hz i
    have ll3 := lev_len hz (i + 1)
    have pw1 : 5 ^ (i + 1) ≤ 5 ^ 5 := Nat.pow_le_pow_right (by decide) (by omega)
    have pw2 : 5 ^ i ≤ 5 ^ 5 := Nat.pow_le_pow_right (by decide) (by omega)
    have pw : 5 ^ 5 = 3125 := by decide
    show tSeq _ _ _ [some (.ref p), some (.int (T.length : Int)), some (.ref fl), some (.ref ll), some (.int (i : Int)), e5, e6, e7, e8] H'
    walk_at "rd"
    refine ⟨by decide, fun D nD => ?_⟩
    have sD := same_new (o := .lst []) nD
    have eD : (upd H' D (.lst [])) D = some (.lst []) := upd_same
    generalize upd H' D (.lst []) = H0 at sD eD
    have hlD := sD _ _ hl
    walk_at "rd"
    refine forL (xs := lx) (fun j σ H'' => ∃ g e6 e7 e8, σ = [some (.ref p), some (.int (T.length : Int)), some (.ref fl), some (.ref ll), some (.int (i : Int)), some g, e6, e7, e8] ∧ Same H' H'' ∧ rep H'' g (((lev T i).take j).flatMap (ext T))) ⟨_, _, _, _, rfl, sD, D, [], rfl, eD, trivial⟩ (fun j σ H'' _ ⟨_, _, _, _, _, s', _⟩ => SqL.of (s' _ _ hl)) ?_ ?_
    · rintro j x σ H'' hj ⟨g, e6, e7, e8, rfl, s', ⟨gl, gx, rfl, hg, ga⟩⟩
      have hj2 := (List.getElem?_eq_some_iff.mp hj).1
      obtain ⟨q, g1, g2⟩ := mat_at la (i := j) (by omega)
      rw [g1] at hj
      cases hj
      have hq := s' _ _ g2
      have hpp := s' _ _ (s _ _ hp)
      have etake : ((lev T i).take (j + 1)).flatMap (ext T) = ((lev T i).take j).flatMap (ext T) ++ ext T ((lev T i).getD j []) := by
        rw [List.take_succ, List.flatMap_append]
        have : (lev T i)[j]? = some ((lev T i).getD j []) := by
          rw [List.getD_eq_getElem?_getD, List.getElem?_eq_getElem (by omega)]
          rfl
        rw [this]
        simp
      have lm := lev_mem (getD_mem (i := j) (m := lev T i) (by omega))
      have gal := ga.len
      have ltake : (((lev T i).take j).flatMap (ext T)).length ≤ T.length * (lev T i).length := by
        have h1 := flat_len (T := T) (m := (lev T i).take j)
        rw [List.length_take] at h1
        exact Nat.le_trans h1 (Nat.mul_le_mul_left _ (Nat.min_le_right _ _))
      have l5 : T.length * (lev T i).length ≤ 5 * 3125 := Nat.mul_le_mul hz (by omega)
      rw [etake]
      generalize (lev T i).getD j [] = one at hq lm
      generalize ((lev T i).take j).flatMap (ext T) = F at ga ltake gal
      refine v_seq (v_asg (if_post (fun x Hx => ∃ n : Nat, x = .int (n : Int) ∧ Same H'' Hx ∧ T.drop n = T.filter fun x => decide (one = [] ∨ lastR one < x)) ?_ ?_))
      rotate_left
      · intro Q' hq'
        show tIf _ _ _ [some (.ref p), some (.int (T.length : Int)), some (.ref fl), some (.ref ll), some (.int (i : Int)), some (.ref gl), some (.ref q), e7, e8] H'' Q'
        walk_at "rd"
        refine ⟨by decide, fun l8 n8 => ?_⟩
        have s8 := same_new (o := .lst []) n8
        have e8 : (upd H'' l8 (.lst [])) l8 = some (.lst []) := upd_same
        generalize upd H'' l8 (.lst []) = H8 at s8 e8
        have hq8 := s8 _ _ hq
        have hp8 := s8 _ _ hpp
        refine w_eqD (α := Row) (a := one) (b := []) (rep_row_of hq8) (rep_row_of e8) ?_
        walk_at "rd"
        refine w_ite (fun h => ?_) (fun h => ?_)
        · walk_at "rd"
          refine hq' _ _ ⟨0, rfl, s8, ?_⟩
          rw [List.filter_eq_self.mpr fun x _ => decide_eq_true (.inl h)]
          rfl
        · have hpos : 0 < one.length := List.length_pos_iff.mpr h
          have hlast : one[one.length - 1]? = some (lastR one) := by
            unfold lastR
            rw [List.getLast?_eq_getElem?, List.getElem?_eq_getElem (by omega)]
            rfl
          obtain ⟨j0, hj0, ej0⟩ := List.getElem_of_mem (lm.2.1 _ (List.mem_of_getElem? hlast))
          have gj0 : T[j0]? = some (lastR one) := by rw [List.getElem?_eq_getElem hj0, ej0]
          have uniq : ∀ m, m < j0 → T[m]? ≠ some (lastR one) := fun m hm e => by
            have := List.pairwise_iff_getElem.mp hT m j0 (by omega) hj0 hm
            rw [List.getElem?_eq_getElem (by omega)] at e
            injection e with e
            rw [e, ej0] at this
            omega
          walk_at "rd"
          refine w_ixAt (one.length - 1) _ (by rw [lenV]; omega) hq8 (by rw [List.getElem?_map, hlast]; rfl) ?_
          walk_at "rd"
          refine w_index hp8 gj0 uniq ?_
          walk_at "rd"
          refine hq' _ _ ⟨j0 + 1, rfl, s8, ?_⟩
          rw [← asc_drop hT hj0, at0_some gj0]
          refine List.filter_congr fun x _ => ?_
          by_cases c : lastR one < x <;> simp [c, h]
      rintro x Hx ⟨n, rfl, sx, hdrop⟩
      show (tAsg _ _) _ [some (.ref p), some (.int (T.length : Int)), some (.ref fl), some (.ref ll), some (.int (i : Int)), some (.ref gl), some (.ref q), some (.int (n : Int)), e8] Hx
      have hpx := sx _ _ hpp
      have hqx := sx _ _ hq
      walk_at "rd"
      refine lcLS (β := Row) (K := Z.K) (G := fun q2 H2 => Same Hx H2 ∧ H2 q2 = some (.lst ((T.drop n).map V.int))) ((T.drop n).map V.int) (fun R h => ?_) (fun t => one ++ [at0 (T.drop n) t]) (fun q2 H2 g => SqL.of g.2) (by rw [lenV, List.length_drop]; omega) (fun _ => rfl) (fun q2 H2 g t x H3 M1 hj s3 so dm R k2 => ?_) (fun q2 H2 g => ?_)
      · walk_at "rd"
        refine w_sl hpx fun l9 n9 => ?_
        rw [cut_from, ← List.map_drop]
        exact ⟨l9, rfl, ⟨_, SqL.of upd_same⟩, h l9 _ ⟨same_new n9, upd_same⟩⟩
      · obtain ⟨z, hz2, rfl⟩ := row_at hj
        obtain rfl := at0_some hz2
        have hq3 := s3 _ _ (g.1 _ _ hqx)
        show tOp _ _ _ [some (.ref p), some (.int (T.length : Int)), some (.ref fl), some (.ref ll), some (.int (i : Int)), some (.ref gl), some (.ref q), some (.int (n : Int)), some (.int (at0 (T.drop n) t))] H3 R
        walk_at "rd"
        refine ⟨small _ (by simp), fun l9 n9 => ?_⟩
        have s9 := same_new (o := .lst [V.int (at0 (T.drop n) t)]) n9
        have e9 : (upd H3 l9 (.lst [V.int (at0 (T.drop n) t)])) l9 = some (.lst [V.int (at0 (T.drop n) t)]) := upd_same
        generalize upd H3 l9 (.lst [V.int (at0 (T.drop n) t)]) = H9 at s9 e9
        refine w_cat (s9 _ _ hq3) e9 (by rw [lenV, lm.1]; show i + 1 ≤ _; omega) fun l10 n10 => ?_
        have s10 := same_new (o := .lst (one.map V.int ++ [V.int (at0 (T.drop n) t)])) n10
        refine k2 _ _ (s9.trans s10) (rep_row_of (off_in (fun z => dm _ z (s9.free n10)) ?_))
        rw [List.map_append]
        exact upd_same
      · have ee : (List.range ((T.drop n).map V.int).length).map (fun t => one ++ [at0 (T.drop n) t]) = ext T one := by
          rw [lenV]
          unfold ext
          rw [← hdrop]
          refine List.ext_getElem? fun t => ?_
          rw [List.getElem?_map, List.getElem?_map, range_get]
          by_cases c : t < (T.drop n).length
          · rw [if_pos c, at0_get c]
            rfl
          · rw [if_neg c, List.getElem?_eq_none (by omega)]
            rfl
        rw [ee]
        intro q5 x5 H5 s5 n5 e5 a5
        have l55 := a5.len
        have el5 := ext_len (T := T) (one := one)
        have sxx := sx.trans (g.1.trans s5)
        refine w_cat (sxx _ _ hg) e5 (by omega) fun q6 n6 => ?_
        have s6 := same_new (o := .lst (gx ++ x5)) n6
        walk_at "rd"
        exact ⟨_, _, _, _, rfl, s'.trans (sxx.trans s6), q6, gx ++ x5, rfl, upd_same, (all2_mono (sxx.trans s6) ga).app (all2_mono (off_same.trans s6) a5)⟩
    · rintro σ H'' ⟨g, e6, e7, e8, rfl, s', hg⟩
      rw [ll1, List.take_length] at hg
      obtain ⟨gl, gx, rfl, hg, ga⟩ := hg
      have ga : All2 (rep H'') gx (lev T (i + 1)) := ga
      have gal := ga.len
      walk_at "rd"
      refine w_cat (s' _ _ hf) hg (by omega) fun q2 n2 => ?_
      have s2 := same_new (o := .lst (fx ++ gx)) n2
      walk_at "rd"
      refine ⟨_, _, _, _, _, _, _, rfl, s.trans (s'.trans s2), ⟨q2, fx ++ gx, rfl, upd_same, (all2_mono (s'.trans s2) fa).app (all2_mono s2 ga)⟩, ⟨gl, gx, rfl, s2 _ _ hg, all2_mono s2 ga⟩⟩
  · rintro σ H' ⟨f, l, e4, e5, e6, e7, e8, rfl, s, hf, hl⟩
    walk_at "rd"
    exact k f H' s hf
end
end G
end
section
set_option Elab.async false
set_option linter.all false
set_option maxRecDepth 100000
namespace G
open PySem L2 PyProof.Rows
local macro_rules | `(tactic| walk_at "rd") => `(tactic| repeat (first
  | (with_reducible refine v_seq ?_)
  | (with_reducible refine v_asg ?_)
  | (with_reducible refine w_cons ?_)
  | (with_reducible refine w_nil ?_)
  | (with_reducible refine w_op ?_)
  | (with_reducible refine w_c ?_)
  | (with_reducible refine w_I0 ?_)
  | (with_reducible refine w_cb ?_)
  | (with_reducible refine w_call ?_)
  | (with_reducible refine v_ret ?_)
  | (with_reducible refine v_next ?_)
  | (with_reducible refine w_ixR (by assumption) (by assumption) ?_)
  | (with_reducible refine w_ix (by assumption) (by assumption) ?_)
  | (with_reducible refine w_test ?_)
  | (with_reducible refine w_tB ?_)
  | (with_reducible refine w_and ?_)
  | (with_reducible refine w_or ?_)
  | (with_reducible refine w_not ?_)
  | (with_reducible refine w_ifE ?_)
  | (with_reducible refine v_ifS ?_)
  | (with_reducible refine w_tt ?_)
  | (with_reducible refine w_ff ?_)
  | (with_reducible refine w_eqI ?_)
  | (with_reducible refine w_neI ?_)
  | (with_reducible refine w_U ?_)
  | (with_reducible refine w_un ?_)
  | (with_reducible refine w_len (by assumption) ?_)
  | (with_reducible refine w_abs ?_)
  | (with_reducible refine w_int ?_)
  | (with_reducible refine w_isN0 ?_)
  | (with_reducible refine w_isN1 (by assumption) ?_)
  | (with_reducible refine w_isN1 ne_in ?_)
  | (with_reducible refine w_isN1 ne_rn ?_)
  | (with_reducible refine w_notN0 ?_)
  | (with_reducible refine w_notN1 ne_in ?_)
  | (with_reducible refine w_notN1 ne_rn ?_)
  | (with_reducible refine v_lst ?_)
  | (with_reducible refine v_tup ?_)
  | (with_reducible refine w_notN1 (by assumption) ?_)
  | (with_reducible refine v_drop ?_)
  | (with_reducible refine w_bm ?_)
  | (with_reducible refine v_for ?_)
  | (with_reducible refine v_rng1 ?_)
  | (with_reducible refine v_rng2 ?_)
  | (with_reducible refine v_list ?_)
  | (with_reducible refine w_sub ?_)
  | (with_reducible refine v_ip ?_)
  | (with_reducible refine v_augS ?_)
  | (with_reducible refine v_retN ?_)
  | (with_reducible refine w_yes ?_)
  | (with_reducible refine tv_0 ?_)
  | (with_reducible refine nv_0 ?_)
  | (with_reducible refine av_0 ?_)
  | (with_reducible refine tv_1 ?_)
  | (with_reducible refine nv_1 ?_)
  | (with_reducible refine av_1 ?_)
  | (with_reducible refine tv_2 ?_)
  | (with_reducible refine nv_2 ?_)
  | (with_reducible refine av_2 ?_)
  | (with_reducible refine tv_3 ?_)
  | (with_reducible refine nv_3 ?_)
  | (with_reducible refine av_3 ?_)
  | (with_reducible refine tv_4 ?_)
  | (with_reducible refine nv_4 ?_)
  | (with_reducible refine av_4 ?_)
  | (with_reducible refine tv_5 ?_)
  | (with_reducible refine nv_5 ?_)
  | (with_reducible refine av_5 ?_)
  | (with_reducible refine tv_6 ?_)
  | (with_reducible refine nv_6 ?_)
  | (with_reducible refine av_6 ?_)
  | (with_reducible refine tv_7 ?_)
  | (with_reducible refine nv_7 ?_)
  | (with_reducible refine av_7 ?_)
  | (with_reducible refine tv_8 ?_)
  | (with_reducible refine nv_8 ?_)
  | (with_reducible refine av_8 ?_)
  | (with_reducible refine tv_9 ?_)
  | (with_reducible refine nv_9 ?_)
  | (with_reducible refine av_9 ?_)
  | (with_reducible refine tv_10 ?_)
  | (with_reducible refine nv_10 ?_)
  | (with_reducible refine av_10 ?_)
  | (with_reducible refine tv_11 ?_)
  | (with_reducible refine nv_11 ?_)
  | (with_reducible refine av_11 ?_)
  | (with_reducible refine tv_12 ?_)
  | (with_reducible refine nv_12 ?_)
  | (with_reducible refine av_12 ?_)
  | (with_reducible refine tv_13 ?_)
  | (with_reducible refine nv_13 ?_)
  | (with_reducible refine av_13 ?_)
  | (with_reducible refine tv_14 ?_)
  | (with_reducible refine nv_14 ?_)
  | (with_reducible refine av_14 ?_)
  | (with_reducible refine tv_15 ?_)
  | (with_reducible refine nv_15 ?_)
  | (with_reducible refine av_15 ?_)
  | (with_reducible refine tv_16 ?_)
  | (with_reducible refine nv_16 ?_)
  | (with_reducible refine av_16 ?_)
  | (with_reducible refine tv_17 ?_)
  | (with_reducible refine nv_17 ?_)
  | (with_reducible refine av_17 ?_)
  | (with_reducible refine tv_18 ?_)
  | (with_reducible refine nv_18 ?_)
  | (with_reducible refine av_18 ?_)
  | (with_reducible refine tv_19 ?_)
  | (with_reducible refine nv_19 ?_)
  | (with_reducible refine av_19 ?_)
  | (with_reducible refine tv_20 ?_)
  | (with_reducible refine nv_20 ?_)
  | (with_reducible refine av_20 ?_)
  | (with_reducible refine tv_21 ?_)
  | (with_reducible refine nv_21 ?_)
  | (with_reducible refine av_21 ?_)
  | (with_reducible refine tv_22 ?_)
  | (with_reducible refine nv_22 ?_)
  | (with_reducible refine av_22 ?_)
  | (with_reducible refine tv_23 ?_)
  | (with_reducible refine nv_23 ?_)
  | (with_reducible refine av_23 ?_)
  | (with_reducible refine tv_24 ?_)
  | (with_reducible refine nv_24 ?_)
  | (with_reducible refine av_24 ?_)
  | (with_reducible refine tv_25 ?_)
  | (with_reducible refine nv_25 ?_)
  | (with_reducible refine av_25 ?_)
  | (with_reducible refine ⟨_, rfl, ⟨_, SqL.of (by assumption)⟩, ?_⟩)
  | (with_reducible refine ⟨_, rfl, (by omega), (by omega), ?_⟩)
  | (with_reducible refine ⟨w_tyL (by assumption), ?_⟩)
  | (with_reducible refine w_isiII ?_)
  | (with_reducible refine w_isiIB ?_)
  | (with_reducible refine w_isiBB ?_)
  | (with_reducible refine w_isiBI ?_)
  | (with_reducible refine w_isiNL ?_)
  | (with_reducible refine w_isiLL (by assumption) ?_)
  | (with_reducible refine v_sl ?_)
  | (with_reducible refine w_nff ?_)
  | (with_reducible refine w_ntt ?_)
  | (with_reducible refine v_chain ?_)
  | (with_reducible refine v_andV ?_)
  | (with_reducible refine v_orV ?_)
  | (with_reducible refine v_chain3 ?_)
  | (with_reducible refine w_min2 ?_)
  | (with_reducible refine v_lstRg ?_)
  | (with_reducible refine w_in (by assumption) ?_)
  | (with_reducible refine w_nin (by assumption) ?_)
  | (with_reducible refine v_notV ?_)
  | (with_reducible refine v_noP ?_)
  | (with_reducible refine v_part ?_)
  | (with_reducible refine v_fld ?_)
  | (with_reducible refine v_sfld ?_)
  | (with_reducible refine ⟨_, (rfl : V.bl _ = V.bl _), ?_⟩)
  | (with_reducible refine ⟨_, (rfl : V.ref _ = V.ref _), ?_⟩)
  | (with_reducible refine ⟨_, (rfl : [V.int _] = [V.int _]), ?_⟩)
  | (with_reducible refine ⟨_, (rfl : V.int _ = V.int _), ?_⟩)
  | (with_reducible refine ⟨⟨_, SqL.of (by assumption)⟩, ?_⟩)
  | (with_reducible refine ⟨(by (first | omega | (rw [lenV]; omega)) : -(2 ^ 62) ≤ _), (by first | omega | (rw [lenV]; omega)), ?_⟩)
  | (with_reducible refine v_meth ?_)
  | (with_reducible refine v_make ?_)
  | (with_reducible refine w_neBB ?_)
  | (with_reducible refine w_eqBB ?_)
  | (with_reducible refine w_isiRI (by assumption) ?_)
  ))
/-! ### what may be brought in -/
structure Web (w : Nat) (L : List Ln) (lims : List (Int × Int)) (G : List Edge) : Prop where
  l1 : L.length = G.length
  l2 : lims = G.map fun e => (e.lo, e.hi)
  ok : ∀ (i : Nat) (e : Edge), G[i]? = some e → ∃ x, L[i]? = some x ∧ x.sh = plainR w e.a e.b ∧ e.a ≤ w ∧ e.b ≤ w ∧ e.a ≠ e.b ∧ e.lo ≤ e.hi ∧ -1000 ≤ e.lo ∧ e.hi ≤ 1000
def inS (nodes : Row) : Cut := fun n => decide ((n : Int) ∈ nodes)
def brD (S : Cut) (side : Nat) (G : List Edge) : Int := if side = 1 then fE G S else -(fE G fun i => !S i)
theorem fE_snoc {S : Cut} {e : Edge} : ∀ {E : List Edge}, fE (E ++ [e]) S = fE E S + oI (S e.b && !S e.a) e.hi - oI (S e.a && !S e.b) e.lo
  | [] => rfl
  | x :: E => by
    show fE (E ++ [e]) S + _ - _ = fE E S + _ - _ + _ - _
    rw [fE_snoc (E := E)]
    omega
def trD (S : Cut) (side : Nat) (e : Edge) : Int := oI (S e.b && !S e.a) (if side = 1 then e.hi else e.lo) - oI (S e.a && !S e.b) (if side = 1 then e.lo else e.hi)
theorem brD_take {S : Cut} {side i : Nat} {G : List Edge} {e : Edge} (h : G[i]? = some e) : brD S side (G.take (i + 1)) = brD S side (G.take i) + trD S side e := by
  have ee : G.take (i + 1) = G.take i ++ [e] := by rw [List.take_succ, h]; rfl
  rw [ee]
  unfold brD trD
  by_cases c : side = 1
  · rw [if_pos c, if_pos c, if_pos c, if_pos c, fE_snoc]
    omega
  · rw [if_neg c, if_neg c, if_neg c, if_neg c, fE_snoc]
    cases S e.a <;> cases S e.b <;> simp [oI] <;> omega
theorem brD_zero {S : Cut} {side : Nat} : brD S side [] = 0 := by
  unfold brD
  split <;> rfl
theorem pick_at {side : Nat} {lo hi : Int} (h : side = 0 ∨ side = 1) : [V.int lo, V.int hi][side]? = some (.int (if side = 1 then hi else lo)) ∧ [V.int lo, V.int hi][1 - side]? = some (.int (if side = 1 then lo else hi)) := by
  rcases h with rfl | rfl <;> exact ⟨rfl, rfl⟩
section
variable {Z : Ctx} {vs : List V} {H : Hp} {Q : VK} {E : XK}
theorem lim_at {lims : List (Int × Int)} {G : List Edge} {xs : List V} {i : Nat} {e : Edge} (h2 : lims = G.map fun e => (e.lo, e.hi)) (ha : All2 (rep H) xs lims) (h : G[i]? = some e) : ∃ t, xs[i]? = some (.ref t) ∧ H t = some (.tup [.int e.lo, .int e.hi]) := by
  obtain ⟨x, h3, ⟨t, y1, y2, rfl, h4, h5, h6⟩⟩ := ha.get (show lims[i]? = some (e.lo, e.hi) by rw [h2, List.getElem?_map, h]; rfl)
  obtain rfl : y1 = .int e.lo := h5
  obtain rfl : y2 = .int e.hi := h6
  exact ⟨t, h3, h4⟩
def sp_brought_in (Z : Ctx) : Sp := fun vs H Q _ => ∃ u v x, ∃ z : Int, ∃ w m side : Nat, ∃ st : Row, ∃ L D : List Ln, ∃ K : List Lk, ∃ lims : List (Int × Int), ∃ nodes : Row, ∃ G : List Edge, vs = [u, v, x, .int z] ∧ z = (side : Int) ∧ PlanAt Z H u w m st L D K ∧ rep H v lims ∧ rep H x nodes ∧ Web w L lims G ∧ (side = 0 ∨ side = 1) ∧ w ≤ 1000 ∧ G.length ≤ 1000 ∧ ∀ H', Same H H' → Q (.int (brD (inS nodes) side G)) H'
abbrev r_brought_in (Z : Ctx) : TS := (tSeq (tAsg (tC (.int 0)) (gName 4)) (tSeq (tFor (iRng1 (tCons (tCB (rLenG Z.K) (tCons (tVar 1) tNil)) tNil)) (gName 5) (tSeq (tAsg (tCall (sp_plain_ends Z) [] E0 (tCons (tOp (rIxGT Z.K) (tOp (rIxG Z.K) (tFld Z.K (tVar 0) "line_list") (tVar 5)) (tC (.int 0))) tNil)) (gTup Z.K 2 (gCons (gName 6) (gCons (gName 7) gNil)))) (tSeq (tIfS (tAnd (tTest (tOp (rIn Z.K false) (tVar 7) (tVar 2))) (tTest (tOp (rIn Z.K true) (tVar 6) (tVar 2)))) (tAug 4 (tOp (rIxGT Z.K) (tOp (rIxG Z.K) (tVar 1) (tVar 5)) (tVar 3)) (ipI fun i j => i + j)) tNext) (tIfS (tAnd (tTest (tOp (rIn Z.K false) (tVar 6) (tVar 2))) (tTest (tOp (rIn Z.K true) (tVar 7) (tVar 2)))) (tAug 4 (tOp (rIxGT Z.K) (tOp (rIxG Z.K) (tVar 1) (tVar 5)) (tOp rSubI (tC (.int 1)) (tVar 3))) (ipI fun i j => i - j)) tNext)))) (tRet (tVar 4))))
theorem ln_brought_in : sp_brought_in Z vs H Q E → vs.length = 4 := by rintro ⟨_, _, _, _, _, _, _, _, _, _, _, _, _, _, rfl, _⟩; rfl
abbrev nm_brought_in : List Str := ["plan", "limits", "nodes", "side", "total", "line", "a", "b"]
theorem rd_brought_in (PC : PlanCls Z) (h : sp_brought_in Z vs H Q E) : r_brought_in Z (ends Q) (L2.start nm_brought_in vs) H := by
  obtain ⟨u, v, x, _, w, m, side, st, L, D, K, lims, nodes, G, rfl, rfl, ⟨a, dx, v1, v2, v3, v4, rfl, h1, h2, ⟨ll, lx, rfl, hll, la⟩, _⟩, ⟨ml, mx, rfl, hml, ma⟩, hx, W, hs, hw, hG, k⟩ := h
  obtain ⟨q, rfl, hq⟩ := rep_row.mp hx
  have mlen := ma.len
  have ml2 : mx.length = G.length := by rw [mlen, W.l2, List.length_map]
  show r_brought_in Z (ends Q) [some (.ref a), some (.ref ml), some (.ref q), some (.int (side : Int)), none, none, none, none] H
  unfold r_brought_in ends
  walk_at "rd"
  refine forR (n := mx.length) (fun i σ H' => ∃ e5 e6 e7, σ = [some (.ref a), some (.ref ml), some (.ref q), some (.int (side : Int)), some (.int (brD (inS nodes) side (G.take i))), e5, e6, e7] ∧ Same H H') ⟨_, _, _, by rw [List.take_zero, brD_zero], .refl _⟩ ?_ ?_
  · rintro i σ H' hi ⟨e5, e6, e7, rfl, s⟩
    have hiG : i < G.length := by omega
    have ge := List.getElem?_eq_getElem hiG
    generalize G[i] = e at ge
    obtain ⟨x, g1, g2, g3, g4, g5, _⟩ := W.ok i e ge
    obtain ⟨y, g6, ⟨t, sh, rfl, g7, g8⟩⟩ := la.get g1
    obtain ⟨mt, g9, g10⟩ := lim_at W.l2 ma ge
    obtain ⟨k1, k2⟩ := pick_at (lo := e.lo) (hi := e.hi) hs
    rw [brD_take ge]
    have h1' := s _ _ h1
    have hll' := s _ _ hll
    have g7 := s _ _ g7
    have g8 := s _ _ g8
    rw [g2] at g8
    show tSeq _ _ _ [some (.ref a), some (.ref ml), some (.ref q), some (.int (side : Int)), some (.int (brD (inS nodes) side (G.take i))), some (.int (i : Int)), e6, e7] H'
    generalize brD (inS nodes) side (G.take i) = tot
    walk_at "rd"
    refine ⟨a, _, dx, _, _, rfl, h1', PC.cl, PC.nl, lk_line, ?_⟩
    walk_at "rd"
    refine w_ixTat 0 0 rfl g7 rfl ?_
    walk_at "rd"
    refine ⟨.ref sh, w, e.a, e.b, rfl, rep_row_of g8, g3, g4, g5, hw, fun t2 H2 s2 n2 e2 => ?_⟩
    refine w_gtup2 e2 ?_
    show tSeq _ _ _ [some (.ref a), some (.ref ml), some (.ref q), some (.int (side : Int)), some (.int tot), some (.int (i : Int)), some (.int (e.a : Int)), some (.int (e.b : Int))] H2
    have sx := s.trans s2
    have hq2 := sx _ _ hq
    have hml2 := sx _ _ hml
    have g10 := sx _ _ g10
    have es : (1 : Int) - (side : Int) = ((1 - side : Nat) : Int) := by omega
    have fin : ∀ (y : Int) (e4 : V), e4 = .int (tot + trD (inS nodes) side e) → ∃ e5 e6 e7, ([some (.ref a), some (.ref ml), some (.ref q), some (.int (side : Int)), some e4, some (.int (i : Int)), some (.int (e.a : Int)), some (.int (e.b : Int))] : L2.St) = [some (.ref a), some (.ref ml), some (.ref q), some (.int (side : Int)), some (.int (tot + trD (inS nodes) side e)), e5, e6, e7] ∧ Same H H2 := fun y e4 h => by subst h; exact ⟨_, _, _, rfl, sx⟩
    walk_at "rd"
    refine w_ite (fun hb => ?_) (fun hb => ?_)
    · have ib : inS nodes e.b = true := decide_eq_true hb
      walk_at "rd"
      refine w_nite (fun ha => ?_) (fun ha => ?_)
      · have ia : inS nodes e.a = true := decide_eq_true ha
        walk_at "rd"
        refine w_ite (fun _ => ?_) (fun h => absurd ha h)
        walk_at "rd"
        refine w_nite (fun _ => ?_) (fun h => absurd hb h)
        walk_at "rd"
        exact fin 0 _ (by unfold trD; rw [ia, ib]; simp [oI])
      · have ia : inS nodes e.a = false := decide_eq_false ha
        walk_at "rd"
        refine w_ixTat side _ rfl g10 k1 ?_
        walk_at "rd"
        refine w_ite (fun h => absurd h ha) (fun _ => ?_)
        walk_at "rd"
        exact fin 0 _ (by unfold trD; rw [ia, ib]; simp [oI])
    · have ib : inS nodes e.b = false := decide_eq_false hb
      walk_at "rd"
      refine w_ite (fun ha => ?_) (fun ha => ?_)
      · have ia : inS nodes e.a = true := decide_eq_true ha
        walk_at "rd"
        refine w_nite (fun h => absurd h hb) (fun _ => ?_)
        walk_at "rd"
        refine w_ixTat (1 - side) _ es g10 k2 ?_
        walk_at "rd"
        exact fin 0 _ (by unfold trD; rw [ia, ib]; simp [oI]; rfl)
      · have ia : inS nodes e.a = false := decide_eq_false ha
        walk_at "rd"
        exact fin 0 _ (by unfold trD; rw [ia, ib]; simp [oI])
  · rintro σ H' ⟨e5, e6, e7, rfl, s⟩
    walk_at "rd"
    rw [ml2, List.take_length]
    exact k _ s
def sp_law_brought (Z : Ctx) : Sp := fun vs H Q _ => ∃ u v x, ∃ z : Int, ∃ w m side : Nat, ∃ L : List Ln, ∃ lims : List (Int × Int), ∃ nodes : Row, ∃ G : List Edge, vs = [u, v, x, .int z] ∧ z = (side : Int) ∧ WorldAt H u w m L ∧ rep H v lims ∧ rep H x nodes ∧ Web w L lims G ∧ (side = 0 ∨ side = 1) ∧ w ≤ 1000 ∧ G.length ≤ 1000 ∧ ∀ H', Same H H' → Q (.int (brD (inS nodes) side G)) H'
abbrev r_law_brought (Z : Ctx) : TS := (tSeq (tAsg (tC (.int 0)) (gName 4)) (tSeq (tFor (iRng1 (tCons (tCB (rLenG Z.K) (tCons (tVar 1) tNil)) tNil)) (gName 5) (tSeq (tAsg (tCall (sp_law_ends Z) [] E0 (tCons (tOp (rIxGT Z.K) (tOp (rIxG Z.K) (tOp (rIxG Z.K) (tVar 0) (tC (.int 3))) (tVar 5)) (tC (.int 0))) tNil)) (gName 6)) (tSeq (tIfS (tAnd (tTest (tOp (rIn Z.K false) (tOp (rIxGT Z.K) (tVar 6) (tC (.int 1))) (tVar 2))) (tTest (tOp (rIn Z.K true) (tOp (rIxGT Z.K) (tVar 6) (tC (.int 0))) (tVar 2)))) (tAug 4 (tOp (rIxGT Z.K) (tOp (rIxG Z.K) (tVar 1) (tVar 5)) (tVar 3)) (ipI fun i j => i + j)) tNext) (tIfS (tAnd (tTest (tOp (rIn Z.K false) (tOp (rIxGT Z.K) (tVar 6) (tC (.int 0))) (tVar 2))) (tTest (tOp (rIn Z.K true) (tOp (rIxGT Z.K) (tVar 6) (tC (.int 1))) (tVar 2)))) (tAug 4 (tOp (rIxGT Z.K) (tOp (rIxG Z.K) (tVar 1) (tVar 5)) (tOp rSubI (tC (.int 1)) (tVar 3))) (ipI fun i j => i - j)) tNext)))) (tRet (tVar 4))))
theorem ln_law_brought : sp_law_brought Z vs H Q E → vs.length = 4 := by rintro ⟨_, _, _, _, _, _, _, _, _, _, _, rfl, _⟩; rfl
abbrev nm_law_brought : List Str := ["world", "limits", "nodes", "side", "total", "line", "ends"]
theorem rd_law_brought (h : sp_law_brought Z vs H Q E) : r_law_brought Z (ends Q) (L2.start nm_law_brought vs) H := by
  obtain ⟨u, v, x, _, w, m, side, L, lims, nodes, G, rfl, rfl, ⟨wl, s3, ll, d3, k3, rfl, h1, _, ⟨_, lx, e, hll, la⟩, _⟩, ⟨ml, mx, rfl, hml, ma⟩, hx, W, hs, hw, hG, k⟩ := h
  cases e
  obtain ⟨q, rfl, hq⟩ := rep_row.mp hx
  have mlen := ma.len
  have ml2 : mx.length = G.length := by rw [mlen, W.l2, List.length_map]
  show r_law_brought Z (ends Q) [some (.ref wl), some (.ref ml), some (.ref q), some (.int (side : Int)), none, none, none] H
  unfold r_law_brought ends
  walk_at "rd"
  refine forR (n := mx.length) (fun i σ H' => ∃ e5 e6, σ = [some (.ref wl), some (.ref ml), some (.ref q), some (.int (side : Int)), some (.int (brD (inS nodes) side (G.take i))), e5, e6] ∧ Same H H') ⟨_, _, by rw [List.take_zero, brD_zero], .refl _⟩ ?_ ?_
  · rintro i σ H' hi ⟨e5, e6, rfl, s⟩
    have hiG : i < G.length := by omega
    have ge := List.getElem?_eq_getElem hiG
    generalize G[i] = e at ge
    obtain ⟨x, g1, g2, g3, g4, g5, _⟩ := W.ok i e ge
    obtain ⟨y, g6, ⟨t, sh, rfl, g7, g8⟩⟩ := la.get g1
    obtain ⟨mt, g9, g10⟩ := lim_at W.l2 ma ge
    obtain ⟨k1, k2⟩ := pick_at (lo := e.lo) (hi := e.hi) hs
    rw [brD_take ge]
    have h1' := s _ _ h1
    have hll' := s _ _ hll
    have g7 := s _ _ g7
    have g8 := s _ _ g8
    rw [g2] at g8
    show tSeq _ _ _ [some (.ref wl), some (.ref ml), some (.ref q), some (.int (side : Int)), some (.int (brD (inS nodes) side (G.take i))), some (.int (i : Int)), e6] H'
    generalize brD (inS nodes) side (G.take i) = tot
    walk_at "rd"
    refine w_ixAt 3 3 rfl h1' rfl ?_
    walk_at "rd"
    refine w_ixTat 0 0 rfl g7 rfl ?_
    walk_at "rd"
    refine ⟨.ref sh, w, e.a, e.b, rfl, rep_row_of g8, g3, g4, g5, hw, fun t2 H2 s2 n2 e2 => ?_⟩
    have sx := s.trans s2
    have hq2 := sx _ _ hq
    have hml2 := sx _ _ hml
    have g10 := sx _ _ g10
    have es : (1 : Int) - (side : Int) = ((1 - side : Nat) : Int) := by omega
    have fin : ∀ (y : Int) (e4 : V), e4 = .int (tot + trD (inS nodes) side e) → ∃ e5 e6, ([some (.ref wl), some (.ref ml), some (.ref q), some (.int (side : Int)), some e4, some (.int (i : Int)), some (.ref t2)] : L2.St) = [some (.ref wl), some (.ref ml), some (.ref q), some (.int (side : Int)), some (.int (tot + trD (inS nodes) side e)), e5, e6] ∧ Same H H2 := fun y e4 h => by subst h; exact ⟨_, _, rfl, sx⟩
    walk_at "rd"
    refine w_ixTat 1 1 rfl e2 rfl ?_
    walk_at "rd"
    refine w_ite (fun hb => ?_) (fun hb => ?_)
    · have ib : inS nodes e.b = true := decide_eq_true hb
      walk_at "rd"
      refine w_ixTat 0 0 rfl e2 rfl ?_
      walk_at "rd"
      refine w_nite (fun ha => ?_) (fun ha => ?_)
      · have ia : inS nodes e.a = true := decide_eq_true ha
        walk_at "rd"
        refine w_ixTat 0 0 rfl e2 rfl ?_
        walk_at "rd"
        refine w_ite (fun _ => ?_) (fun h => absurd ha h)
        walk_at "rd"
        refine w_ixTat 1 1 rfl e2 rfl ?_
        walk_at "rd"
        refine w_nite (fun _ => ?_) (fun h => absurd hb h)
        walk_at "rd"
        exact fin 0 _ (by unfold trD; rw [ia, ib]; simp [oI])
      · have ia : inS nodes e.a = false := decide_eq_false ha
        walk_at "rd"
        refine w_ixTat side _ rfl g10 k1 ?_
        walk_at "rd"
        refine w_ixTat 0 0 rfl e2 rfl ?_
        walk_at "rd"
        refine w_ite (fun h => absurd h ha) (fun _ => ?_)
        walk_at "rd"
        exact fin 0 _ (by unfold trD; rw [ia, ib]; simp [oI])
    · have ib : inS nodes e.b = false := decide_eq_false hb
      walk_at "rd"
      refine w_ixTat 0 0 rfl e2 rfl ?_
      walk_at "rd"
      refine w_ite (fun ha => ?_) (fun ha => ?_)
      · have ia : inS nodes e.a = true := decide_eq_true ha
        walk_at "rd"
        refine w_ixTat 1 1 rfl e2 rfl ?_
        walk_at "rd"
        refine w_nite (fun h => absurd h hb) (fun _ => ?_)
        walk_at "rd"
        refine w_ixTat (1 - side) _ es g10 k2 ?_
        walk_at "rd"
        exact fin 0 _ (by unfold trD; rw [ia, ib]; simp [oI]; rfl)
      · have ia : inS nodes e.a = false := decide_eq_false ha
        walk_at "rd"
        exact fin 0 _ (by unfold trD; rw [ia, ib]; simp [oI])
  · rintro σ H' ⟨e5, e6, rfl, s⟩
    walk_at "rd"
    rw [ml2, List.take_length]
    exact k _ s
end
end G
end
section
set_option Elab.async false
set_option linter.all false
set_option maxRecDepth 100000
namespace G
open PySem L2 PyProof.Rows
local macro_rules | `(tactic| walk_at "rd") => `(tactic| repeat (first
  | (with_reducible refine v_seq ?_)
  | (with_reducible refine v_asg ?_)
  | (with_reducible refine w_cons ?_)
  | (with_reducible refine w_nil ?_)
  | (with_reducible refine w_op ?_)
  | (with_reducible refine w_c ?_)
  | (with_reducible refine w_I0 ?_)
  | (with_reducible refine w_cb ?_)
  | (with_reducible refine w_call ?_)
  | (with_reducible refine v_ret ?_)
  | (with_reducible refine v_next ?_)
  | (with_reducible refine w_ixR (by assumption) (by assumption) ?_)
  | (with_reducible refine w_ix (by assumption) (by assumption) ?_)
  | (with_reducible refine w_test ?_)
  | (with_reducible refine w_tB ?_)
  | (with_reducible refine w_and ?_)
  | (with_reducible refine w_or ?_)
  | (with_reducible refine w_not ?_)
  | (with_reducible refine w_ifE ?_)
  | (with_reducible refine v_ifS ?_)
  | (with_reducible refine w_tt ?_)
  | (with_reducible refine w_ff ?_)
  | (with_reducible refine w_eqI ?_)
  | (with_reducible refine w_neI ?_)
  | (with_reducible refine w_U ?_)
  | (with_reducible refine w_un ?_)
  | (with_reducible refine w_len (by assumption) ?_)
  | (with_reducible refine w_abs ?_)
  | (with_reducible refine w_int ?_)
  | (with_reducible refine w_isN0 ?_)
  | (with_reducible refine w_isN1 (by assumption) ?_)
  | (with_reducible refine w_isN1 ne_in ?_)
  | (with_reducible refine w_isN1 ne_rn ?_)
  | (with_reducible refine w_notN0 ?_)
  | (with_reducible refine w_notN1 ne_in ?_)
  | (with_reducible refine w_notN1 ne_rn ?_)
  | (with_reducible refine v_lst ?_)
  | (with_reducible refine v_tup ?_)
  | (with_reducible refine w_notN1 (by assumption) ?_)
  | (with_reducible refine v_drop ?_)
  | (with_reducible refine w_bm ?_)
  | (with_reducible refine v_for ?_)
  | (with_reducible refine v_rng1 ?_)
  | (with_reducible refine v_rng2 ?_)
  | (with_reducible refine v_list ?_)
  | (with_reducible refine w_sub ?_)
  | (with_reducible refine v_ip ?_)
  | (with_reducible refine v_augS ?_)
  | (with_reducible refine v_retN ?_)
  | (with_reducible refine w_yes ?_)
  | (with_reducible refine tv_0 ?_)
  | (with_reducible refine nv_0 ?_)
  | (with_reducible refine av_0 ?_)
  | (with_reducible refine tv_1 ?_)
  | (with_reducible refine nv_1 ?_)
  | (with_reducible refine av_1 ?_)
  | (with_reducible refine tv_2 ?_)
  | (with_reducible refine nv_2 ?_)
  | (with_reducible refine av_2 ?_)
  | (with_reducible refine tv_3 ?_)
  | (with_reducible refine nv_3 ?_)
  | (with_reducible refine av_3 ?_)
  | (with_reducible refine tv_4 ?_)
  | (with_reducible refine nv_4 ?_)
  | (with_reducible refine av_4 ?_)
  | (with_reducible refine tv_5 ?_)
  | (with_reducible refine nv_5 ?_)
  | (with_reducible refine av_5 ?_)
  | (with_reducible refine tv_6 ?_)
  | (with_reducible refine nv_6 ?_)
  | (with_reducible refine av_6 ?_)
  | (with_reducible refine tv_7 ?_)
  | (with_reducible refine nv_7 ?_)
  | (with_reducible refine av_7 ?_)
  | (with_reducible refine tv_8 ?_)
  | (with_reducible refine nv_8 ?_)
  | (with_reducible refine av_8 ?_)
  | (with_reducible refine tv_9 ?_)
  | (with_reducible refine nv_9 ?_)
  | (with_reducible refine av_9 ?_)
  | (with_reducible refine tv_10 ?_)
  | (with_reducible refine nv_10 ?_)
  | (with_reducible refine av_10 ?_)
  | (with_reducible refine tv_11 ?_)
  | (with_reducible refine nv_11 ?_)
  | (with_reducible refine av_11 ?_)
  | (with_reducible refine tv_12 ?_)
  | (with_reducible refine nv_12 ?_)
  | (with_reducible refine av_12 ?_)
  | (with_reducible refine tv_13 ?_)
  | (with_reducible refine nv_13 ?_)
  | (with_reducible refine av_13 ?_)
  | (with_reducible refine tv_14 ?_)
  | (with_reducible refine nv_14 ?_)
  | (with_reducible refine av_14 ?_)
  | (with_reducible refine tv_15 ?_)
  | (with_reducible refine nv_15 ?_)
  | (with_reducible refine av_15 ?_)
  | (with_reducible refine tv_16 ?_)
  | (with_reducible refine nv_16 ?_)
  | (with_reducible refine av_16 ?_)
  | (with_reducible refine tv_17 ?_)
  | (with_reducible refine nv_17 ?_)
  | (with_reducible refine av_17 ?_)
  | (with_reducible refine tv_18 ?_)
  | (with_reducible refine nv_18 ?_)
  | (with_reducible refine av_18 ?_)
  | (with_reducible refine tv_19 ?_)
  | (with_reducible refine nv_19 ?_)
  | (with_reducible refine av_19 ?_)
  | (with_reducible refine tv_20 ?_)
  | (with_reducible refine nv_20 ?_)
  | (with_reducible refine av_20 ?_)
  | (with_reducible refine tv_21 ?_)
  | (with_reducible refine nv_21 ?_)
  | (with_reducible refine av_21 ?_)
  | (with_reducible refine tv_22 ?_)
  | (with_reducible refine nv_22 ?_)
  | (with_reducible refine av_22 ?_)
  | (with_reducible refine tv_23 ?_)
  | (with_reducible refine nv_23 ?_)
  | (with_reducible refine av_23 ?_)
  | (with_reducible refine tv_24 ?_)
  | (with_reducible refine nv_24 ?_)
  | (with_reducible refine av_24 ?_)
  | (with_reducible refine tv_25 ?_)
  | (with_reducible refine nv_25 ?_)
  | (with_reducible refine av_25 ?_)
  | (with_reducible refine ⟨_, rfl, ⟨_, SqL.of (by assumption)⟩, ?_⟩)
  | (with_reducible refine ⟨_, rfl, (by omega), (by omega), ?_⟩)
  | (with_reducible refine ⟨w_tyL (by assumption), ?_⟩)
  | (with_reducible refine w_isiII ?_)
  | (with_reducible refine w_isiIB ?_)
  | (with_reducible refine w_isiBB ?_)
  | (with_reducible refine w_isiBI ?_)
  | (with_reducible refine w_isiNL ?_)
  | (with_reducible refine w_isiLL (by assumption) ?_)
  | (with_reducible refine v_sl ?_)
  | (with_reducible refine w_nff ?_)
  | (with_reducible refine w_ntt ?_)
  | (with_reducible refine v_chain ?_)
  | (with_reducible refine v_andV ?_)
  | (with_reducible refine v_orV ?_)
  | (with_reducible refine v_chain3 ?_)
  | (with_reducible refine w_min2 ?_)
  | (with_reducible refine v_lstRg ?_)
  | (with_reducible refine w_in (by assumption) ?_)
  | (with_reducible refine w_nin (by assumption) ?_)
  | (with_reducible refine v_notV ?_)
  | (with_reducible refine v_noP ?_)
  | (with_reducible refine v_part ?_)
  | (with_reducible refine v_fld ?_)
  | (with_reducible refine v_sfld ?_)
  | (with_reducible refine ⟨_, (rfl : V.bl _ = V.bl _), ?_⟩)
  | (with_reducible refine ⟨_, (rfl : V.ref _ = V.ref _), ?_⟩)
  | (with_reducible refine ⟨_, (rfl : [V.int _] = [V.int _]), ?_⟩)
  | (with_reducible refine ⟨_, (rfl : V.int _ = V.int _), ?_⟩)
  | (with_reducible refine ⟨⟨_, SqL.of (by assumption)⟩, ?_⟩)
  | (with_reducible refine ⟨(by (first | omega | (rw [lenV]; omega)) : -(2 ^ 62) ≤ _), (by first | omega | (rw [lenV]; omega)), ?_⟩)
  | (with_reducible refine v_meth ?_)
  | (with_reducible refine v_make ?_)
  | (with_reducible refine w_neBB ?_)
  | (with_reducible refine w_eqBB ?_)
  | (with_reducible refine w_isiRI (by assumption) ?_)
  ))
def rangeR (n : Nat) : Row := (List.range n).map fun (i : Nat) => (i : Int)
theorem rangeR_len {n : Nat} : (rangeR n).length = n := by simp [rangeR]
theorem rangeR_mem {n : Nat} {z : Int} : z ∈ rangeR n ↔ 0 ≤ z ∧ z < (n : Int) := by
  unfold rangeR
  rw [List.mem_map]
  constructor
  · rintro ⟨i, hi, rfl⟩
    have := List.mem_range.mp hi
    omega
  · rintro ⟨h1, h2⟩
    exact ⟨z.toNat, List.mem_range.mpr (by omega), by omega⟩
theorem filt_asc {n : Nat} {f : Nat → Bool} : Asc (((List.range n).filter f).map fun (i : Nat) => (i : Int)) :=
  List.Pairwise.map _ (fun a b h => by omega) (List.Pairwise.filter _ List.pairwise_lt_range)
theorem rangeR_asc {n : Nat} : Asc (rangeR n) := List.Pairwise.map _ (fun a b h => by omega) List.pairwise_lt_range
def sumAt (sums num : Row) : Int := (num.map fun z => at0 sums z.toNat).sum
/-! ### faults -/
structure Nev where
  num : Row
  tot : Int
  lim : Int
def repNev (H : Hp) (v : V) (x : Nev) : Prop := ∃ t q, v = .ref t ∧ H t = some (.tup [.str "never", .ref q, .int x.tot, .int x.lim]) ∧ H q = some (.lst (x.num.map V.int))
theorem repNev.mono {H H' : Hp} {v : V} {x : Nev} (h : repNev H v x) (s : Same H H') : repNev H' v x := by
  obtain ⟨t, q, e, h1, h2⟩ := h
  exact ⟨t, q, e, s _ _ h1, s _ _ h2⟩
def mostF (Wh : Mat) (G : List Edge) (num : Row) : Int := brD (inS (nodesOf Wh num)) 1 G
def leastF (Wh : Mat) (G : List Edge) (num : Row) : Int := brD (inS (nodesOf Wh num)) 0 G
def fltB (Wh : Mat) (G : List Edge) (sums num : Row) : Bool := decide (mostF Wh G num < sumAt sums num ∨ sumAt sums num < leastF Wh G num)
def nevOf (Wh : Mat) (G : List Edge) (sums num : Row) : Nev := ⟨num, sumAt sums num, if mostF Wh G num < sumAt sums num then mostF Wh G num else leastF Wh G num⟩
def faultOf (Wh : Mat) (G : List Edge) (sums : Row) : Option Row := (sets (rangeR Wh.length) Wh.length).find? (fltB Wh G sums)
theorem find_first {f : Row → Bool} : ∀ {S : Mat} {i : Nat}, i < S.length → (∀ j, j < i → f (S.getD j []) = false) → f (S.getD i []) = true → S.find? f = some (S.getD i [])
  | [], i, h, _, _ => by simp at h
  | r :: S, 0, _, _, h => by
    have h : f r = true := h
    rw [List.find?_cons, h]
    rfl
  | r :: S, i + 1, hi, h1, h2 => by
    have h0 : f r = false := h1 0 (by omega)
    rw [List.find?_cons, h0]
    exact find_first (S := S) (i := i) (by simpa using hi) (fun j hj => h1 (j + 1) (by omega)) h2
theorem find_none {f : Row → Bool} {S : Mat} (h : ∀ j, j < S.length → f (S.getD j []) = false) : S.find? f = none := by
  rw [List.find?_eq_none]
  intro r hr
  obtain ⟨i, hi, rfl⟩ := mem_getD hr
  rw [h i hi]
  simp
section
variable {Z : Ctx} {vs : List V} {H : Hp} {Q : VK} {E : XK}
/-- what ranges_of looks at -/
structure Rg (Z : Ctx) (H : Hp) (u v : V) (w m : Nat) (st : Row) (L D : List Ln) (K : List Lk) (lims : List (Int × Int)) (G : List Edge) : Prop where
  fp : PlanAt Z H u w m st L D K
  fl : rep H v lims
  fw : Web w L lims G
  f9 : w ≤ 1000
  fg : G.length ≤ 1000
theorem Rg.mono {H' : Hp} {u v : V} {w m : Nat} {st : Row} {L D : List Ln} {K : List Lk} {lims : List (Int × Int)} {G : List Edge} (h : Rg Z H u v w m st L D K lims G) (s : Same H H') : Rg Z H' u v w m st L D K lims G := ⟨h.fp.mono s, Rep.mono s h.fl, h.fw, h.f9, h.fg⟩
def sp_block_fault (Z : Ctx) : Sp := fun vs H Q _ => ∃ u v x y, ∃ w m : Nat, ∃ st : Row, ∃ L D : List Ln, ∃ K : List Lk, ∃ lims : List (Int × Int), ∃ G : List Edge, ∃ Wh : Mat, ∃ sums : Row, vs = [u, v, x, y] ∧ Rg Z H u v w m st L D K lims G ∧ rep H x Wh ∧ rep H y sums ∧ Wh.length ≤ 5 ∧ sums.length = Wh.length ∧ (∀ b ∈ Wh, b.length ≤ 1000) ∧
  (faultOf Wh G sums = none → ∀ H', Same H H' → Q .non H') ∧ ∀ num, faultOf Wh G sums = some num → ∀ t H', Same H H' → repNev H' (.ref t) (nevOf Wh G sums num) → Q (.ref t) H'
abbrev r_block_fault (Z : Ctx) : TS := (tSeq (tFor (iList Z.K (tCall (sp_sets_of Z) [] E0 (tCons (tLstRg (tRg1 (tCB (rLenG Z.K) (tCons (tVar 2) tNil)))) (tCons (tCB (rLenG Z.K) (tCons (tVar 2) tNil)) tNil)))) (gName 4) (tSeq (tAsg (tCall (sp_nodes_of Z) [] E0 (tCons (tVar 2) (tCons (tVar 4) tNil))) (gName 5)) (tSeq (tAsg (tCB (rSum Z.K) (tCons (tLc (iList Z.K (tVar 4)) (gName 7) tYes (tOp (rIxG Z.K) (tVar 3) (tVar 7)) [7]) tNil)) (gName 6)) (tSeq (tAsg (tCall (sp_brought_in Z) [] E0 (tCons (tVar 0) (tCons (tVar 1) (tCons (tVar 5) (tCons (tC (.int 1)) tNil))))) (gName 8)) (tSeq (tAsg (tCall (sp_brought_in Z) [] E0 (tCons (tVar 0) (tCons (tVar 1) (tCons (tVar 5) (tCons (tC (.int 0)) tNil))))) (gName 9)) (tSeq (tIfS (tTest (tOp rGtI (tVar 6) (tVar 8))) (tRet (tTup (tCons (tC (.str "never")) (tCons (tCB (rLstG Z.K) (tCons (tVar 4) tNil)) (tCons (tVar 6) (tCons (tVar 8) tNil)))))) tNext) (tIfS (tTest (tOp rLtI (tVar 6) (tVar 9))) (tRet (tTup (tCons (tC (.str "never")) (tCons (tCB (rLstG Z.K) (tCons (tVar 4) tNil)) (tCons (tVar 6) (tCons (tVar 9) tNil)))))) tNext))))))) (tRet (tC .non)))
theorem ln_block_fault : sp_block_fault Z vs H Q E → vs.length = 4 := by rintro ⟨_, _, _, _, _, _, _, _, _, _, _, _, _, _, rfl, _⟩; rfl
abbrev nm_block_fault : List Str := ["plan", "limits", "whole", "sums", "numbers", "nodes", "total", "number", "most", "least"]
theorem rd_block_fault (h : sp_block_fault Z vs H Q E) : r_block_fault Z (ends Q) (L2.start nm_block_fault vs) H := by
  obtain ⟨u, v, x, y, w, m, st, L, D, K, lims, G, Wh, sums, rfl, R, hx, hy, hz, hl, hb, k1, k2⟩ := h
  have hx' := hx
  obtain ⟨wl, wx, rfl, hw, wa⟩ := hx'
  obtain ⟨p, rfl, hp⟩ := rep_row.mp hy
  have wlen := wa.len
  show r_block_fault Z (ends Q) [some u, some v, some (.ref wl), some (.ref p), none, none, none, none, none, none] H
  unfold r_block_fault ends
  walk_at "rd"
  refine ⟨RgOk.of_le (by omega) (by omega) (by omega) (by omega), fun q0 n0 => ?_⟩
  rw [rgV_nat]
  have s0 := same_new (o := .lst ((rangeR wx.length).map V.int)) n0
  have e0 : (upd H q0 (.lst ((rangeR wx.length).map V.int))) q0 = some (.lst ((rangeR wx.length).map V.int)) := upd_same
  show tCons _ _ _ (upd H q0 (.lst ((rangeR wx.length).map V.int))) _
  generalize upd H q0 (.lst ((rangeR wx.length).map V.int)) = H0 at s0 e0
  have hw0 := s0 _ _ hw
  walk_at "rd"
  refine ⟨.ref q0, _, rangeR wx.length, rfl, by rw [rangeR_len], rep_row_of e0, rangeR_asc, by rw [rangeR_len]; omega, fun sv H1 s1 rs => ?_⟩
  rw [rangeR_len, wlen] at rs
  obtain ⟨sl, sx, rfl, hsl, sa⟩ := rs
  have slen := sa.len
  have s01 := s0.trans s1
  walk_at "rd"
  refine forL (xs := sx) (fun i σ H' => ∃ e4 e5 e6 e7 e8 e9, σ = [some u, some v, some (.ref wl), some (.ref p), e4, e5, e6, e7, e8, e9] ∧ Same H1 H' ∧ ∀ j, j < i → fltB Wh G sums ((sets (rangeR Wh.length) Wh.length).getD j []) = false) ⟨_, _, _, _, _, _, rfl, .refl _, fun j hj => by omega⟩ (fun i σ H' _ ⟨_, _, _, _, _, _, _, s, _⟩ => SqL.of (s _ _ hsl)) ?_ ?_
  · rintro i x σ H' hi ⟨e4, e5, e6, e7, e8, e9, rfl, s, hno⟩
    have hi2 := (List.getElem?_eq_some_iff.mp hi).1
    obtain ⟨q, g1, g2⟩ := mat_at sa (i := i) (by omega)
    rw [g1] at hi
    cases hi
    have mem := getD_mem (m := sets (rangeR Wh.length) Wh.length) (i := i) (by omega)
    obtain ⟨m1, m2, m3⟩ := sets_mem mem
    have hff := fun hf => find_first (f := fltB Wh G sums) (S := sets (rangeR Wh.length) Wh.length) (i := i) (by omega) hno hf
    have gq := s _ _ g2
    have nxt : ∀ (b : Bool), fltB Wh G sums ((sets (rangeR Wh.length) Wh.length).getD i []) = b → b = false → ∀ j, j < i + 1 → fltB Wh G sums ((sets (rangeR Wh.length) Wh.length).getD j []) = false := fun b h1 h2 j hj => by
      by_cases c : j = i
      · rw [c, h1, h2]
      · exact hno j (by omega)
    generalize (sets (rangeR Wh.length) Wh.length).getD i [] = num at gq m1 m2 m3 hff nxt
    have hnum : ∀ z ∈ num, 0 ≤ z ∧ z < (Wh.length : Int) := fun z hz => rangeR_mem.mp (m2 z hz)
    have sx1 := s01.trans s
    show tSeq _ _ _ [some u, some v, some (.ref wl), some (.ref p), some (.ref q), e5, e6, e7, e8, e9] H'
    walk_at "rd"
    refine ⟨.ref wl, .ref q, Wh, num, rfl, Rep.mono sx1 hx, rep_row_of gq, hnum, by omega, hb, fun qn H2 s2 n2 e2 => ?_⟩
    have gq2 := s2 _ _ gq
    have hp2 := (sx1.trans s2) _ _ hp
    walk_at "rd"
    refine lcLrT (xs := num.map V.int) (fun R h => by walk_at "rd"; exact h) (fun j => at0 sums (at0 num j).toNat) (SqL.of gq2) (by rw [lenV]; omega) (fun _ => rfl) (fun j x H3 hj s3 R k3 => ?_) ?_
    · obtain ⟨z, hz2, rfl⟩ := row_at hj
      obtain ⟨b1, b2⟩ := hnum z (List.mem_of_getElem? hz2)
      obtain rfl := at0_some hz2
      have hp3 := s3 _ _ hp2
      have h2 := at0_get (r := sums) (i := (at0 num j).toNat) (by omega)
      show tOp _ _ _ [some u, some v, some (.ref wl), some (.ref p), some (.ref q), some (.ref qn), e6, some (.int (at0 num j)), e8, e9] H3 R
      walk_at "rd"
      refine w_ixAt (at0 num j).toNat _ (by omega) hp3 (by rw [List.getElem?_map, h2]; rfl) ?_
      exact k3 _ (.refl _)
    rw [map_at0 num fun z => at0 sums z.toNat]
    intro q3 H3 s3 n3 e3
    walk_at "rd"
    refine w_sum e3 ?_
    have esum : (num.map fun z => at0 sums z.toNat).sum = sumAt sums num := rfl
    rw [esum]
    have s23 := s2.trans s3
    have R3 := R.mono (sx1.trans s23)
    walk_at "rd"
    refine ⟨u, v, .ref qn, 1, w, m, 1, st, L, D, K, lims, nodesOf Wh num, G, rfl, rfl, R3.fp, R3.fl, rep_row_of (s3 _ _ e2), R3.fw, .inr rfl, R3.f9, R3.fg, fun H4 s4 => ?_⟩
    have R4 := R3.mono s4
    walk_at "rd"
    refine ⟨u, v, .ref qn, 0, w, m, 0, st, L, D, K, lims, nodesOf Wh num, G, rfl, rfl, R4.fp, R4.fl, rep_row_of (s4 _ _ (s3 _ _ e2)), R4.fw, .inl rfl, R4.f9, R4.fg, fun H5 s5 => ?_⟩
    have em : brD (inS (nodesOf Wh num)) 1 G = mostF Wh G num := rfl
    have el : brD (inS (nodesOf Wh num)) 0 G = leastF Wh G num := rfl
    rw [em, el]
    have s25 := s23.trans (s4.trans s5)
    have gq5 := s25 _ _ gq
    walk_at "rd"
    refine w_ite (fun h => ?_) (fun h => ?_)
    · have hf : fltB Wh G sums num = true := decide_eq_true (.inl (by omega))
      walk_at "rd"
      refine w_lst gq5 fun q6 n6 => ?_
      have s6 := same_new (o := .lst (num.map V.int)) n6
      have e6' : (upd H5 q6 (.lst (num.map V.int))) q6 = some (.lst (num.map V.int)) := upd_same
      generalize upd H5 q6 (.lst (num.map V.int)) = H6 at s6 e6'
      walk_at "rd"
      refine ⟨small _ (by simp), fun t7 n7 => ?_⟩
      refine k2 num (hff hf) t7 _ ((sx1.trans s25).trans (s6.trans (same_new n7))) ⟨t7, q6, rfl, ?_, (same_new n7) _ _ e6'⟩
      unfold nevOf
      rw [if_pos (by omega)]
      exact upd_same
    · walk_at "rd"
      refine w_ite (fun h2 => ?_) (fun h2 => ?_)
      · have hf : fltB Wh G sums num = true := decide_eq_true (.inr (by omega))
        walk_at "rd"
        refine w_lst gq5 fun q6 n6 => ?_
        have s6 := same_new (o := .lst (num.map V.int)) n6
        have e6' : (upd H5 q6 (.lst (num.map V.int))) q6 = some (.lst (num.map V.int)) := upd_same
        generalize upd H5 q6 (.lst (num.map V.int)) = H6 at s6 e6'
        walk_at "rd"
        refine ⟨small _ (by simp), fun t7 n7 => ?_⟩
        refine k2 num (hff hf) t7 _ ((sx1.trans s25).trans (s6.trans (same_new n7))) ⟨t7, q6, rfl, ?_, (same_new n7) _ _ e6'⟩
        unfold nevOf
        rw [if_neg (by omega)]
        exact upd_same
      · have hf : fltB Wh G sums num = false := decide_eq_false (by omega)
        walk_at "rd"
        exact ⟨_, _, _, _, _, _, rfl, s.trans s25, nxt _ hf rfl⟩
  · rintro σ H' ⟨e4, e5, e6, e7, e8, e9, rfl, s, hno⟩
    rw [slen] at hno
    walk_at "rd"
    exact k1 (find_none hno) H' (s01.trans s)
/-! ### the best bound -/
def boundF (Wh : Mat) (G : List Edge) (sums group : Row) (side : Nat) (num : Row) : Int := brD (inS (group ++ nodesOf Wh num)) side G - sumAt sums num
def bestStep (side : Nat) (f : Row → Int) (o : Option (Int × Row)) (num : Row) : Option (Int × Row) := match o with
  | none => some (f num, num)
  | some (b, s) => if (if side = 1 then f num < b else b < f num) then some (f num, num) else some (b, s)
theorem best_yes {side : Nat} {f : Row → Int} {b : Int} {r num : Row} (h : if side = 1 then f num < b else b < f num) : bestStep side f (some (b, r)) num = some (f num, num) := if_pos h
theorem best_no {side : Nat} {f : Row → Int} {b : Int} {r num : Row} (h : ¬ (if side = 1 then f num < b else b < f num)) : bestStep side f (some (b, r)) num = some (b, r) := if_neg h
def bestF (side : Nat) (f : Row → Int) (l : Mat) : Option (Int × Row) := l.foldl (bestStep side f) none
def othersOf (Wh : Mat) (g : Int) : Row := ((List.range Wh.length).filter fun (i : Nat) => !decide (g ∈ Wh.getD i [])).map fun (i : Nat) => (i : Int)
theorem others_mem {Wh : Mat} {g z : Int} (h : z ∈ othersOf Wh g) : 0 ≤ z ∧ z < (Wh.length : Int) := by
  obtain ⟨i, hi, rfl⟩ := List.mem_map.mp h
  have := List.mem_range.mp (List.mem_filter.mp hi).1
  omega
theorem others_len {Wh : Mat} {g : Int} : (othersOf Wh g).length ≤ Wh.length := by
  unfold othersOf
  rw [List.length_map]
  have := List.length_filter_le (fun i : Nat => !decide (g ∈ Wh.getD i [])) (List.range Wh.length)
  rw [List.length_range] at this
  exact this
def bestAt (H : Hp) (v : V) : Option (Int × Row) → Prop
  | none => v = .non
  | some (b, s) => ∃ t q, v = .ref t ∧ H t = some (.tup [.int b, .ref q]) ∧ H q = some (.lst (s.map V.int))
theorem bestAt.mono {H H' : Hp} {v : V} {o : Option (Int × Row)} (h : bestAt H v o) (s : Same H H') : bestAt H' v o := by
  cases o with
  | none => exact h
  | some c =>
    obtain ⟨t, q, e, h1, h2⟩ := h
    exact ⟨t, q, e, s _ _ h1, s _ _ h2⟩
def sp_best_bound (Z : Ctx) : Sp := fun vs H Q _ => ∃ u v x y g, ∃ z : Int, ∃ w m side : Nat, ∃ st : Row, ∃ L D : List Ln, ∃ K : List Lk, ∃ lims : List (Int × Int), ∃ G : List Edge, ∃ Wh : Mat, ∃ sums group : Row, vs = [u, v, x, y, g, .int z] ∧ z = (side : Int) ∧ Rg Z H u v w m st L D K lims G ∧ rep H x Wh ∧ rep H y sums ∧ rep H g group ∧ Wh.length ≤ 5 ∧ sums.length = Wh.length ∧ (∀ b ∈ Wh, b.length ≤ 1000) ∧ 0 < group.length ∧ group.length ≤ 1000 ∧ (side = 0 ∨ side = 1) ∧
  ∀ w' H', Same H H' → bestAt H' w' (bestF side (boundF Wh G sums group side) (sets (othersOf Wh (at0 group 0)) (othersOf Wh (at0 group 0)).length)) → Q w' H'
abbrev r_best_bound (Z : Ctx) : TS := (tSeq (tAsg (tLc (iRng1 (tCons (tCB (rLenG Z.K) (tCons (tVar 2) tNil)) tNil)) (gName 7) (tTest (tOp (rIn Z.K true) (tOp (rIxG Z.K) (tVar 4) (tC (.int 0))) (tOp (rIxG Z.K) (tVar 2) (tVar 7)))) (tVar 7) [7]) (gName 6)) (tSeq (tAsg (tC .non) (gName 8)) (tSeq (tFor (iList Z.K (tCall (sp_sets_of Z) [] E0 (tCons (tVar 6) (tCons (tCB (rLenG Z.K) (tCons (tVar 6) tNil)) tNil)))) (gName 9) (tSeq (tAsg (tOp rCat (tCB (rLstG Z.K) (tCons (tVar 4) tNil)) (tCall (sp_nodes_of Z) [] E0 (tCons (tVar 2) (tCons (tVar 9) tNil)))) (gName 10)) (tSeq (tAsg (tOp rSubI (tCall (sp_brought_in Z) [] E0 (tCons (tVar 0) (tCons (tVar 1) (tCons (tVar 10) (tCons (tVar 5) tNil))))) (tCB (rSum Z.K) (tCons (tLc (iList Z.K (tVar 9)) (gName 7) tYes (tOp (rIxG Z.K) (tVar 3) (tVar 7)) [7]) tNil))) (gName 11)) (tIfS (tOr (tTest (tOp rIsNo (tVar 8) (tC .non))) (tB (tIf (tTest (tOp rEq (tVar 5) (tC (.int 1)))) (tOp rLtI (tVar 11) (tOp (rIxGT Z.K) (tVar 8) (tC (.int 0)))) (tOp rGtI (tVar 11) (tOp (rIxGT Z.K) (tVar 8) (tC (.int 0))))))) (tAsg (tTup (tCons (tVar 11) (tCons (tCB (rLstG Z.K) (tCons (tVar 9) tNil)) tNil))) (gName 8)) tNext)))) (tRet (tVar 8)))))
theorem ln_best_bound : sp_best_bound Z vs H Q E → vs.length = 6 := by rintro ⟨_, _, _, _, _, _, _, _, _, _, _, _, _, _, _, _, _, _, rfl, _⟩; rfl
abbrev nm_best_bound : List Str := ["plan", "limits", "whole", "sums", "group", "side", "others", "number", "best", "numbers", "nodes", "bound"]
theorem rd_best_bound (h : sp_best_bound Z vs H Q E) : r_best_bound Z (ends Q) (L2.start nm_best_bound vs) H := by
  obtain ⟨u, v, x, y, g, _, w, m, side, st, L, D, K, lims, G, Wh, sums, group, rfl, rfl, R, hx, hy, hg, hz, hl, hb, hg0, hg1, hside, k⟩ := h
  have hx' := hx
  obtain ⟨wl, wx, rfl, hw, wa⟩ := hx'
  obtain ⟨p, rfl, hp⟩ := rep_row.mp hy
  obtain ⟨gq, rfl, hgq⟩ := rep_row.mp hg
  have wlen := wa.len
  have g00 := at0_get (r := group) (i := 0) hg0
  show r_best_bound Z (ends Q) [some u, some v, some (.ref wl), some (.ref p), some (.ref gq), some (.int (side : Int)), none, none, none, none, none, none] H
  unfold r_best_bound ends
  walk_at "rd"
  refine lcRF (β := Int) (n := wx.length) (fun R h => by walk_at "rd"; exact h) (dom H) (fun i => !decide (at0 group 0 ∈ Wh.getD i [])) (fun i => (i : Int)) (by omega) (fun _ h => h) (fun _ => rfl) (fun i H1 hi s1 R1 k1 => ?_) (fun i H1 M1 hi hf s1 _ _ R1 k1 => ?_) ?_
  · obtain ⟨q, g1, g2⟩ := mat_at wa (i := i) (by omega)
    have g2 := s1 _ _ g2
    have hw1 := s1 _ _ hw
    show tTest _ [some u, some v, some (.ref wl), some (.ref p), some (.ref gq), some (.int (side : Int)), none, some (.int (i : Int)), none, none, none, none] H1 R1
    walk_at "rd"
    refine w_ixAt 0 0 rfl (s1 _ _ hgq) (by rw [List.getElem?_map, g00]; rfl) ?_
    walk_at "rd"
    exact k1 _ (.refl _)
  · show tVar 7 [some u, some v, some (.ref wl), some (.ref p), some (.ref gq), some (.int (side : Int)), none, some (.int (i : Int)), none, none, none, none] H1 R1
    walk_at "rd"
    exact k1 _ _ (.refl _) rfl
  intro qo xo H1 s1 n1 e1 a1
  rw [all2_ints.mp a1, wlen] at e1
  have eo : H1 qo = some (.lst ((othersOf Wh (at0 group 0)).map V.int)) := e1
  have oasc : Asc (othersOf Wh (at0 group 0)) := filt_asc
  have olen := others_len (Wh := Wh) (g := at0 group 0)
  have omem : ∀ z ∈ othersOf Wh (at0 group 0), 0 ≤ z ∧ z < (Wh.length : Int) := fun z hz => others_mem hz
  generalize othersOf Wh (at0 group 0) = oth at eo oasc olen omem k
  walk_at "rd"
  refine ⟨.ref qo, _, oth, rfl, by rw [lenV], rep_row_of eo, oasc, by omega, fun sv H2 s2 rs => ?_⟩
  obtain ⟨sl, sx, rfl, hsl, sa⟩ := rs
  have slen := sa.len
  have s02 := s1.trans s2
  walk_at "rd"
  refine forL (xs := sx) (fun i σ H' => ∃ e7 b e9 e10 e11, σ = [some u, some v, some (.ref wl), some (.ref p), some (.ref gq), some (.int (side : Int)), some (.ref qo), e7, some b, e9, e10, e11] ∧ Same H2 H' ∧ bestAt H' b (bestF side (boundF Wh G sums group side) ((sets oth oth.length).take i))) ⟨_, _, _, _, _, rfl, .refl _, rfl⟩ (fun i σ H' _ ⟨_, _, _, _, _, _, s, _⟩ => SqL.of (s _ _ hsl)) ?_ ?_
  · rintro i x σ H' hi ⟨e7, b, e9, e10, e11, rfl, s, hbst⟩
    have hi2 := (List.getElem?_eq_some_iff.mp hi).1
    obtain ⟨q, g1, g2⟩ := mat_at sa (i := i) (by omega)
    rw [g1] at hi
    cases hi
    obtain ⟨m1, m2, m3⟩ := sets_mem (getD_mem (m := sets oth oth.length) (i := i) (by omega))
    have gq' := s _ _ g2
    have etake : bestF side (boundF Wh G sums group side) ((sets oth oth.length).take (i + 1)) = bestStep side (boundF Wh G sums group side) (bestF side (boundF Wh G sums group side) ((sets oth oth.length).take i)) ((sets oth oth.length).getD i []) := by
      have : (sets oth oth.length)[i]? = some ((sets oth oth.length).getD i []) := by
        rw [List.getD_eq_getElem?_getD, List.getElem?_eq_getElem (by omega)]
        rfl
      unfold bestF
      rw [List.take_succ, this, List.foldl_append]
      rfl
    rw [etake]
    generalize (sets oth oth.length).getD i [] = num at gq' m1 m2 m3
    generalize bestF side (boundF Wh G sums group side) ((sets oth oth.length).take i) = bo at hbst
    have hnum : ∀ z ∈ num, 0 ≤ z ∧ z < (Wh.length : Int) := fun z hz => omem z (m2 z hz)
    have sx1 := s02.trans s
    have hgq1 := sx1 _ _ hgq
    show tSeq _ _ _ [some u, some v, some (.ref wl), some (.ref p), some (.ref gq), some (.int (side : Int)), some (.ref qo), e7, some b, some (.ref q), e10, e11] H'
    walk_at "rd"
    refine w_lst hgq1 fun c1 n1 => ?_
    have t1 := same_new (o := .lst (group.map V.int)) n1
    have d1 : (upd H' c1 (.lst (group.map V.int))) c1 = some (.lst (group.map V.int)) := upd_same
    generalize upd H' c1 (.lst (group.map V.int)) = H3 at t1 d1
    have gq3 := t1 _ _ gq'
    walk_at "rd"
    refine ⟨.ref wl, .ref q, Wh, num, rfl, Rep.mono (sx1.trans t1) hx, rep_row_of gq3, hnum, by omega, hb, fun qn H4 s4 n4 e4 => ?_⟩
    have nl : (nodesOf Wh num).length ≤ 1000 * num.length := by
      have := nodes_len (num := num) hb num.length
      rwa [List.take_length] at this
    refine w_cat (s4 _ _ d1) e4 (by rw [lenV, lenV]; omega) fun qm n5 => ?_
    have s5 := same_new (o := .lst (group.map V.int ++ (nodesOf Wh num).map V.int)) n5
    have e5 : (upd H4 qm (.lst (group.map V.int ++ (nodesOf Wh num).map V.int))) qm = some (.lst ((group ++ nodesOf Wh num).map V.int)) := by rw [List.map_append]; exact upd_same
    generalize upd H4 qm (.lst (group.map V.int ++ (nodesOf Wh num).map V.int)) = H5 at s5 e5
    have s35 := t1.trans (s4.trans s5)
    have R5 := R.mono (sx1.trans s35)
    walk_at "rd"
    refine ⟨u, v, .ref qm, _, w, m, side, st, L, D, K, lims, group ++ nodesOf Wh num, G, rfl, rfl, R5.fp, R5.fl, rep_row_of e5, R5.fw, hside, R5.f9, R5.fg, fun H6 s6 => ?_⟩
    have s36 := s35.trans s6
    have gq6 := s36 _ _ gq'
    have hp6 := (sx1.trans s36) _ _ hp
    walk_at "rd"
    refine lcLrT (xs := num.map V.int) (fun R h => by walk_at "rd"; exact h) (fun j => at0 sums (at0 num j).toNat) (SqL.of gq6) (by rw [lenV]; omega) (fun _ => rfl) (fun j x H7 hj s7 R7 k7 => ?_) ?_
    · obtain ⟨z, hz2, rfl⟩ := row_at hj
      obtain ⟨b1, b2⟩ := hnum z (List.mem_of_getElem? hz2)
      obtain rfl := at0_some hz2
      have hp7 := s7 _ _ hp6
      have h2 := at0_get (r := sums) (i := (at0 num j).toNat) (by omega)
      show tOp _ _ _ [some u, some v, some (.ref wl), some (.ref p), some (.ref gq), some (.int (side : Int)), some (.ref qo), some (.int (at0 num j)), some b, some (.ref q), some (.ref qm), e11] H7 R7
      walk_at "rd"
      refine w_ixAt (at0 num j).toNat _ (by omega) hp7 (by rw [List.getElem?_map, h2]; rfl) ?_
      exact k7 _ (.refl _)
    rw [map_at0 num fun z => at0 sums z.toNat]
    intro q7 H7 s7 n7 e7'
    walk_at "rd"
    refine w_sum e7' ?_
    have esum : (num.map fun z => at0 sums z.toNat).sum = sumAt sums num := rfl
    rw [esum]
    walk_at "rd"
    have ebd : brD (inS (group ++ nodesOf Wh num)) side G - sumAt sums num = boundF Wh G sums group side num := rfl
    rw [ebd]
    have s37 := s36.trans s7
    have gq7 := s7 _ _ gq6
    have hbst7 := hbst.mono s37
    cases bo with
    | none =>
      obtain rfl : b = .non := hbst7
      walk_at "rd"
      refine w_lst gq7 fun q8 n8 => ?_
      have s8 := same_new (o := .lst (num.map V.int)) n8
      have e8 : (upd H7 q8 (.lst (num.map V.int))) q8 = some (.lst (num.map V.int)) := upd_same
      generalize upd H7 q8 (.lst (num.map V.int)) = H8 at s8 e8
      walk_at "rd"
      refine ⟨small _ (by simp), fun t9 n9 => ?_⟩
      walk_at "rd"
      exact ⟨_, _, _, _, _, rfl, s.trans (s37.trans (s8.trans (same_new n9))), t9, q8, rfl, upd_same, (same_new n9) _ _ e8⟩
    | some c =>
      obtain ⟨cb, cs⟩ := c
      obtain ⟨t, qs, rfl, h1, h2⟩ := hbst7
      walk_at "rd"
      refine w_ite (fun hc => ?_) (fun hc => ?_)
      · walk_at "rd"
        refine w_ixTat 0 0 rfl h1 rfl ?_
        walk_at "rd"
        refine w_ite (fun h => ?_) (fun h => ?_)
        · skip
          walk_at "rd"
          refine w_lst gq7 fun q8 n8 => ?_
          have s8 := same_new (o := .lst (num.map V.int)) n8
          have e8 : (upd H7 q8 (.lst (num.map V.int))) q8 = some (.lst (num.map V.int)) := upd_same
          generalize upd H7 q8 (.lst (num.map V.int)) = H8 at s8 e8
          walk_at "rd"
          refine ⟨small _ (by simp), fun t9 n9 => ?_⟩
          walk_at "rd"
          refine ⟨_, _, _, _, _, rfl, s.trans (s37.trans (s8.trans (same_new n9))), ?_⟩
          rw [best_yes (by rw [if_pos (by omega)]; omega)]
          exact ⟨t9, q8, rfl, upd_same, (same_new n9) _ _ e8⟩
        · skip
          walk_at "rd"
          refine ⟨_, _, _, _, _, rfl, s.trans s37, ?_⟩
          rw [best_no (by rw [if_pos (by omega)]; omega)]
          exact hbst.mono s37
      · walk_at "rd"
        refine w_ixTat 0 0 rfl h1 rfl ?_
        walk_at "rd"
        refine w_ite (fun h => ?_) (fun h => ?_)
        · skip
          walk_at "rd"
          refine w_lst gq7 fun q8 n8 => ?_
          have s8 := same_new (o := .lst (num.map V.int)) n8
          have e8 : (upd H7 q8 (.lst (num.map V.int))) q8 = some (.lst (num.map V.int)) := upd_same
          generalize upd H7 q8 (.lst (num.map V.int)) = H8 at s8 e8
          walk_at "rd"
          refine ⟨small _ (by simp), fun t9 n9 => ?_⟩
          walk_at "rd"
          refine ⟨_, _, _, _, _, rfl, s.trans (s37.trans (s8.trans (same_new n9))), ?_⟩
          rw [best_yes (by rw [if_neg (by omega)]; omega)]
          exact ⟨t9, q8, rfl, upd_same, (same_new n9) _ _ e8⟩
        · skip
          walk_at "rd"
          refine ⟨_, _, _, _, _, rfl, s.trans s37, ?_⟩
          rw [best_no (by rw [if_neg (by omega)]; omega)]
          exact hbst.mono s37
  · rintro σ H' ⟨e7, b, e9, e10, e11, rfl, s, hbst⟩
    rw [slen, List.take_length] at hbst
    walk_at "rd"
    exact k b H' (s02.trans s) hbst
end
end G
end
section
set_option Elab.async false
set_option linter.all false
set_option maxRecDepth 100000
namespace G
open PySem L2 PyProof.Rows
local macro_rules | `(tactic| walk_at "rd") => `(tactic| repeat (first
  | (with_reducible refine v_seq ?_)
  | (with_reducible refine v_asg ?_)
  | (with_reducible refine w_cons ?_)
  | (with_reducible refine w_nil ?_)
  | (with_reducible refine w_op ?_)
  | (with_reducible refine w_c ?_)
  | (with_reducible refine w_I0 ?_)
  | (with_reducible refine w_cb ?_)
  | (with_reducible refine w_call ?_)
  | (with_reducible refine v_ret ?_)
  | (with_reducible refine v_next ?_)
  | (with_reducible refine w_ixR (by assumption) (by assumption) ?_)
  | (with_reducible refine w_ix (by assumption) (by assumption) ?_)
  | (with_reducible refine w_test ?_)
  | (with_reducible refine w_tB ?_)
  | (with_reducible refine w_and ?_)
  | (with_reducible refine w_or ?_)
  | (with_reducible refine w_not ?_)
  | (with_reducible refine w_ifE ?_)
  | (with_reducible refine v_ifS ?_)
  | (with_reducible refine w_tt ?_)
  | (with_reducible refine w_ff ?_)
  | (with_reducible refine w_eqI ?_)
  | (with_reducible refine w_neI ?_)
  | (with_reducible refine w_U ?_)
  | (with_reducible refine w_un ?_)
  | (with_reducible refine w_len (by assumption) ?_)
  | (with_reducible refine w_abs ?_)
  | (with_reducible refine w_int ?_)
  | (with_reducible refine w_isN0 ?_)
  | (with_reducible refine w_isN1 (by assumption) ?_)
  | (with_reducible refine w_isN1 ne_in ?_)
  | (with_reducible refine w_isN1 ne_rn ?_)
  | (with_reducible refine w_notN0 ?_)
  | (with_reducible refine w_notN1 ne_in ?_)
  | (with_reducible refine w_notN1 ne_rn ?_)
  | (with_reducible refine v_lst ?_)
  | (with_reducible refine v_tup ?_)
  | (with_reducible refine w_notN1 (by assumption) ?_)
  | (with_reducible refine v_drop ?_)
  | (with_reducible refine w_bm ?_)
  | (with_reducible refine v_for ?_)
  | (with_reducible refine v_rng1 ?_)
  | (with_reducible refine v_rng2 ?_)
  | (with_reducible refine v_list ?_)
  | (with_reducible refine w_sub ?_)
  | (with_reducible refine v_ip ?_)
  | (with_reducible refine v_augS ?_)
  | (with_reducible refine v_retN ?_)
  | (with_reducible refine w_yes ?_)
  | (with_reducible refine tv_0 ?_)
  | (with_reducible refine nv_0 ?_)
  | (with_reducible refine av_0 ?_)
  | (with_reducible refine tv_1 ?_)
  | (with_reducible refine nv_1 ?_)
  | (with_reducible refine av_1 ?_)
  | (with_reducible refine tv_2 ?_)
  | (with_reducible refine nv_2 ?_)
  | (with_reducible refine av_2 ?_)
  | (with_reducible refine tv_3 ?_)
  | (with_reducible refine nv_3 ?_)
  | (with_reducible refine av_3 ?_)
  | (with_reducible refine tv_4 ?_)
  | (with_reducible refine nv_4 ?_)
  | (with_reducible refine av_4 ?_)
  | (with_reducible refine tv_5 ?_)
  | (with_reducible refine nv_5 ?_)
  | (with_reducible refine av_5 ?_)
  | (with_reducible refine tv_6 ?_)
  | (with_reducible refine nv_6 ?_)
  | (with_reducible refine av_6 ?_)
  | (with_reducible refine tv_7 ?_)
  | (with_reducible refine nv_7 ?_)
  | (with_reducible refine av_7 ?_)
  | (with_reducible refine tv_8 ?_)
  | (with_reducible refine nv_8 ?_)
  | (with_reducible refine av_8 ?_)
  | (with_reducible refine tv_9 ?_)
  | (with_reducible refine nv_9 ?_)
  | (with_reducible refine av_9 ?_)
  | (with_reducible refine tv_10 ?_)
  | (with_reducible refine nv_10 ?_)
  | (with_reducible refine av_10 ?_)
  | (with_reducible refine tv_11 ?_)
  | (with_reducible refine nv_11 ?_)
  | (with_reducible refine av_11 ?_)
  | (with_reducible refine tv_12 ?_)
  | (with_reducible refine nv_12 ?_)
  | (with_reducible refine av_12 ?_)
  | (with_reducible refine tv_13 ?_)
  | (with_reducible refine nv_13 ?_)
  | (with_reducible refine av_13 ?_)
  | (with_reducible refine tv_14 ?_)
  | (with_reducible refine nv_14 ?_)
  | (with_reducible refine av_14 ?_)
  | (with_reducible refine tv_15 ?_)
  | (with_reducible refine nv_15 ?_)
  | (with_reducible refine av_15 ?_)
  | (with_reducible refine tv_16 ?_)
  | (with_reducible refine nv_16 ?_)
  | (with_reducible refine av_16 ?_)
  | (with_reducible refine tv_17 ?_)
  | (with_reducible refine nv_17 ?_)
  | (with_reducible refine av_17 ?_)
  | (with_reducible refine tv_18 ?_)
  | (with_reducible refine nv_18 ?_)
  | (with_reducible refine av_18 ?_)
  | (with_reducible refine tv_19 ?_)
  | (with_reducible refine nv_19 ?_)
  | (with_reducible refine av_19 ?_)
  | (with_reducible refine tv_20 ?_)
  | (with_reducible refine nv_20 ?_)
  | (with_reducible refine av_20 ?_)
  | (with_reducible refine tv_21 ?_)
  | (with_reducible refine nv_21 ?_)
  | (with_reducible refine av_21 ?_)
  | (with_reducible refine tv_22 ?_)
  | (with_reducible refine nv_22 ?_)
  | (with_reducible refine av_22 ?_)
  | (with_reducible refine tv_23 ?_)
  | (with_reducible refine nv_23 ?_)
  | (with_reducible refine av_23 ?_)
  | (with_reducible refine tv_24 ?_)
  | (with_reducible refine nv_24 ?_)
  | (with_reducible refine av_24 ?_)
  | (with_reducible refine tv_25 ?_)
  | (with_reducible refine nv_25 ?_)
  | (with_reducible refine av_25 ?_)
  | (with_reducible refine ⟨_, rfl, ⟨_, SqL.of (by assumption)⟩, ?_⟩)
  | (with_reducible refine ⟨_, rfl, (by omega), (by omega), ?_⟩)
  | (with_reducible refine ⟨w_tyL (by assumption), ?_⟩)
  | (with_reducible refine w_isiII ?_)
  | (with_reducible refine w_isiIB ?_)
  | (with_reducible refine w_isiBB ?_)
  | (with_reducible refine w_isiBI ?_)
  | (with_reducible refine w_isiNL ?_)
  | (with_reducible refine w_isiLL (by assumption) ?_)
  | (with_reducible refine v_sl ?_)
  | (with_reducible refine w_nff ?_)
  | (with_reducible refine w_ntt ?_)
  | (with_reducible refine v_chain ?_)
  | (with_reducible refine v_andV ?_)
  | (with_reducible refine v_orV ?_)
  | (with_reducible refine v_chain3 ?_)
  | (with_reducible refine w_min2 ?_)
  | (with_reducible refine v_lstRg ?_)
  | (with_reducible refine w_in (by assumption) ?_)
  | (with_reducible refine w_nin (by assumption) ?_)
  | (with_reducible refine v_notV ?_)
  | (with_reducible refine v_noP ?_)
  | (with_reducible refine v_part ?_)
  | (with_reducible refine v_fld ?_)
  | (with_reducible refine v_sfld ?_)
  | (with_reducible refine ⟨_, (rfl : V.bl _ = V.bl _), ?_⟩)
  | (with_reducible refine ⟨_, (rfl : V.ref _ = V.ref _), ?_⟩)
  | (with_reducible refine ⟨_, (rfl : [V.int _] = [V.int _]), ?_⟩)
  | (with_reducible refine ⟨_, (rfl : V.int _ = V.int _), ?_⟩)
  | (with_reducible refine ⟨⟨_, SqL.of (by assumption)⟩, ?_⟩)
  | (with_reducible refine ⟨(by (first | omega | (rw [lenV]; omega)) : -(2 ^ 62) ≤ _), (by first | omega | (rw [lenV]; omega)), ?_⟩)
  | (with_reducible refine v_meth ?_)
  | (with_reducible refine v_make ?_)
  | (with_reducible refine w_neBB ?_)
  | (with_reducible refine w_eqBB ?_)
  | (with_reducible refine w_isiRI (by assumption) ?_)
  ))
theorem best_some {side : Nat} {f : Row → Int} {l : Mat} (h : l ≠ []) : ∃ b s, bestF side f l = some (b, s) := by
  have g : ∀ (l : Mat) (o : Option (Int × Row)), (∃ b s, o = some (b, s)) → ∃ b s, l.foldl (bestStep side f) o = some (b, s) := by
    intro l
    induction l with
    | nil => exact fun o h => h
    | cons x l ih =>
      rintro _ ⟨b, s, rfl⟩
      refine ih _ ?_
      by_cases c : (if side = 1 then f x < b else b < f x)
      · exact ⟨_, _, best_yes c⟩
      · exact ⟨_, _, best_no c⟩
  cases l with
  | nil => exact absurd rfl h
  | cons x l => exact g l _ ⟨f x, x, rfl⟩
theorem sets_ne {T : Row} {n : Nat} : sets T n ≠ [] := by
  intro h
  have : ([] : Row) ∈ sets T n := sets_all (Nat.zero_le _) (fun x h => absurd h (by simp)) List.Pairwise.nil
  rw [h] at this
  cases this
theorem flat_at {B : Mat} {i j : Nat} (hi : i < B.length) (hj : j < (B.getD i []).length) (nd : B.flatten.Nodup) : at0 (B.getD i []) j ∉ (B.take i).flatten ++ (B.getD i []).take j := by
  have e1 : B = B.take i ++ (B.getD i [] :: B.drop (i + 1)) := by
    have : B.getD i [] = B[i] := by rw [List.getD_eq_getElem?_getD, List.getElem?_eq_getElem hi]; rfl
    rw [this, List.getElem_cons_drop, List.take_append_drop]
  have e2 : B.getD i [] = (B.getD i []).take j ++ (at0 (B.getD i []) j :: (B.getD i []).drop (j + 1)) := by
    have : at0 (B.getD i []) j = (B.getD i [])[j] := by
      unfold at0
      rw [List.getD_eq_getElem?_getD (l := B.getD i []), List.getElem?_eq_getElem hj]
      rfl
    rw [this, List.getElem_cons_drop, List.take_append_drop]
  have e3 : B.flatten = ((B.take i).flatten ++ (B.getD i []).take j) ++ (at0 (B.getD i []) j :: ((B.getD i []).drop (j + 1) ++ (B.drop (i + 1)).flatten)) := by
    conv => lhs; rw [e1]
    rw [List.flatten_append, List.flatten_cons]
    conv => lhs; rw [e2]
    simp
  rw [e3] at nd
  intro hm
  exact (List.nodup_append.mp nd).2.2 _ hm _ (List.mem_cons_self ..) rfl
theorem flat_take {B : Mat} {i : Nat} (hi : i < B.length) : (B.take (i + 1)).flatten = (B.take i).flatten ++ B.getD i [] := by
  have : B[i]? = some (B.getD i []) := by
    rw [List.getD_eq_getElem?_getD, List.getElem?_eq_getElem hi]
    rfl
  rw [List.take_succ, this, List.flatten_append]
  simp
theorem Blk.fl {w n : Nat} {B : Mat} (h : Blk w n B) : B.flatten.length ≤ w + 1 := by
  have := List.Nodup.length_le_of_subset h.nd (l₂ := rangeR (w + 1)) fun x hx => rangeR_mem.mpr (by have := h.inn x hx; omega)
  rwa [rangeR_len] at this
theorem Blk.bl {w n : Nat} {B : Mat} (h : Blk w n B) : ∀ b ∈ B, b.length ≤ w + 1 := fun b hb => by
  have h1 := h.fl
  have h2 : b.length ≤ B.flatten.length := by
    obtain ⟨i, hi, rfl⟩ := mem_getD hb
    have h3 := flat_take hi
    have h4 : (B.take (i + 1)).flatten.length ≤ B.flatten.length := by
      conv => rhs; rw [← List.take_append_drop (i + 1) B]
      rw [List.flatten_append, List.length_append]
      omega
    rw [h3, List.length_append] at h4
    omega
  omega
theorem whole_bl {w n : Nat} {B : Mat} (h : Blk w n B) : ∀ b ∈ wholeOf w B, b.length ≤ w + 1 := fun b hb => by
  rcases List.mem_append.mp hb with z | z
  · exact h.bl b z
  · rw [List.mem_singleton.mp z]
    exact restOf_len
theorem whole_len {w : Nat} {B : Mat} : (wholeOf w B).length = B.length + 1 := by simp [wholeOf]
section
variable {Z : Ctx} {vs : List V} {H : Hp} {Q : VK} {E : XK}
def sp_check_still (Z : Ctx) : Sp := fun vs H Q _ => ∃ u, ∃ w m : Nat, ∃ st : Row, ∃ L D : List Ln, ∃ K : List Lk, vs = [u] ∧ PlanAt Z H u w m st L D K ∧ st.length ≤ 1000 ∧ (∀ i, at0 st i = 0) ∧ ∀ H', Same H H' → Q .non H'
abbrev r_check_still (Z : Ctx) : TS := (tIfS (tTest (tOp (rNeD Z.K) (tLc (iList Z.K (tFld Z.K (tVar 0) "start_row")) (gName 1) (tTest (tOp rNe (tVar 1) (tC (.int 0)))) (tVar 1) [1]) (tLst tNil))) tNever tNext)
theorem ln_check_still : sp_check_still Z vs H Q E → vs.length = 1 := by rintro ⟨_, _, _, _, _, _, _, rfl, _⟩; rfl
abbrev nm_check_still : List Str := ["plan", "one"]
theorem rd_check_still (PC : PlanCls Z) (h : sp_check_still Z vs H Q E) : r_check_still Z (ends Q) (L2.start nm_check_still vs) H := by
  obtain ⟨u, w, m, st, L, D, K, rfl, ⟨a, dx, v1, v2, v3, v4, rfl, h1, h2, _⟩, hz, h0, k⟩ := h
  obtain ⟨p, rfl, hp⟩ := rep_row.mp h2
  show r_check_still Z (ends Q) [some (.ref a), none] H
  unfold r_check_still ends
  walk_at "rd"
  refine lcLF (β := Int) (xs := st.map V.int) (fun R h => by walk_at "rd"; exact ⟨a, _, dx, _, _, rfl, h1, PC.cl, PC.ns, lk_start, ⟨_, rfl, ⟨_, SqL.of hp⟩, h⟩⟩) (dom _) (fun _ => false) (fun i => at0 st i) (SqL.of hp) (by rw [lenV]; omega) (fun _ h => h) (fun _ => rfl) (fun i x H1 hi s R k1 => ?_) (fun i x H1 M1 hi hf s _ _ R k1 => by cases hf) ?_
  · obtain ⟨z, hz2, rfl⟩ := row_at hi
    obtain rfl := at0_some hz2
    show tTest _ [some (.ref a), some (.int (at0 st i))] H1 R
    walk_at "rd"
    rw [decide_eq_false (show ¬ at0 st i ≠ 0 from fun h => h (h0 i))]
    exact k1 _ (.refl _)
  · intro l x H1 s1 n1 e1 a1
    have ex : (List.filter (fun _ => false) (List.range (st.map V.int).length)).map (fun i => at0 st i) = [] := by
      rw [List.filter_eq_nil_iff.mpr fun _ _ => Bool.false_ne_true]
      rfl
    rw [ex] at a1
    walk_at "rd"
    refine ⟨by decide, fun l2 n2 => ?_⟩
    have s2 := same_new (o := .lst []) n2
    refine w_neD (α := Row) (a := []) (b := []) ⟨l, x, rfl, s2 _ _ e1, all2_mono (off_same.trans s2) a1⟩ (rep_row_of upd_same) ?_
    walk_at "rd"
    refine w_ite (fun h => absurd rfl h) (fun _ => ?_)
    walk_at "rd"
    exact k _ (s1.trans s2)
def sp_check_pair_numbers (Z : Ctx) : Sp := fun vs H Q _ => ∃ v, ∃ z : Int, ∃ lims : List (Int × Int), vs = [v, .int z] ∧ rep H v lims ∧ (∀ c ∈ lims, -z ≤ c.1 ∧ c.1 ≤ z ∧ -z ≤ c.2 ∧ c.2 ≤ z) ∧ ∀ H', Same H H' → Q .non H'
abbrev r_check_pair_numbers (Z : Ctx) : TS := (tFor (iList Z.K (tVar 0)) (gName 2) (tIfS (tB (tCB (rIsiT Z.K) (tCons (tVar 2) (tCons (tTup (tCons (tC (.ty "list")) (tCons (tC (.ty "tuple")) tNil))) tNil)))) (tDrop (tCall (sp_check_numbers Z) [] E0 (tCons (tVar 2) (tCons (tVar 1) tNil)))) tNext))
theorem ln_check_pair_numbers : sp_check_pair_numbers Z vs H Q E → vs.length = 2 := by rintro ⟨_, _, _, rfl, _⟩; rfl
abbrev nm_check_pair_numbers : List Str := ["rows", "most", "row"]
theorem rd_check_pair_numbers (h : sp_check_pair_numbers Z vs H Q E) : r_check_pair_numbers Z (ends Q) (L2.start nm_check_pair_numbers vs) H := by
  obtain ⟨v, z, lims, rfl, ⟨l, xs, rfl, hl, ha⟩, hb, k⟩ := h
  show r_check_pair_numbers Z (ends Q) [some (.ref l), some (.int z), none] H
  unfold r_check_pair_numbers ends
  walk_at "rd"
  refine forL (xs := xs) (fun i σ H' => ∃ e, σ = [some (.ref l), some (.int z), e] ∧ Same H H') ⟨_, rfl, .refl _⟩ (fun i σ H' _ ⟨_, _, s⟩ => SqL.of (s _ _ hl)) ?_ ?_
  · rintro i x σ H' hi ⟨e, rfl, s⟩
    obtain ⟨c, g1, g2, ⟨t, y1, y2, rfl, g3, g4, g5⟩⟩ := l_at ha hi
    obtain rfl : y1 = .int c.1 := g4
    obtain rfl : y2 = .int c.2 := g5
    obtain ⟨b1, b2, b3, b4⟩ := hb c g2
    have g3 := s _ _ g3
    walk_at "rd"
    refine ⟨small _ (by simp), fun t2 n2 => ?_⟩
    have s2 := same_new (o := .tup [V.ty "list", .ty "tuple"]) n2
    walk_at "rd"
    refine w_isiTT (s2 _ _ g3) upd_same ?_
    walk_at "rd"
    refine ⟨.ref t, z, [c.1, c.2], rfl, ⟨t, rfl, .inr (s2 _ _ g3)⟩, fun y hy => ?_, ?_⟩
    · have : y = c.1 ∨ y = c.2 := by simpa using hy
      rcases this with rfl | rfl <;> omega
    · exact ⟨_, rfl, s.trans s2⟩
  · rintro σ H' ⟨e, rfl, s⟩
    exact k _ s
def sp_check_pairs (Z : Ctx) : Sp := fun vs H Q _ => ∃ s v, ∃ z y : Int, ∃ lims : List (Int × Int), vs = [.str s, v, .int z, .int y] ∧ z = (lims.length : Int) ∧ rep H v lims ∧ lims.length ≤ 1000 ∧ (∀ c ∈ lims, c.1 ≤ c.2) ∧ ∀ H', Same H H' → Q .non H'
abbrev r_check_pairs (Z : Ctx) : TS := (tSeq (tIfS (tOr (tNot (tB (tCB (rIsiT Z.K) (tCons (tVar 1) (tCons (tTup (tCons (tC (.ty "list")) (tCons (tC (.ty "tuple")) tNil))) tNil))))) (tTest (tOp rNe (tCB (rLenG Z.K) (tCons (tVar 1) tNil)) (tVar 2)))) tNever tNext) (tFor (iRng1 (tCons (tVar 2) tNil)) (gName 4) (tIfS (tOr (tNot (tB (tCall (sp_whole_list Z) [] E0 (tCons (tOp (rIxG Z.K) (tVar 1) (tVar 4)) (tCons (tC (.int 2)) tNil))))) (tTest (tOp rGtI (tOp (rIxGT Z.K) (tOp (rIxG Z.K) (tVar 1) (tVar 4)) (tC (.int 0))) (tOp (rIxGT Z.K) (tOp (rIxG Z.K) (tVar 1) (tVar 4)) (tC (.int 1)))))) tNever tNext)))
theorem ln_check_pairs : sp_check_pairs Z vs H Q E → vs.length = 4 := by rintro ⟨_, _, _, _, _, rfl, _⟩; rfl
abbrev nm_check_pairs : List Str := ["kind", "rows", "many", "first", "at"]
theorem rd_check_pairs (h : sp_check_pairs Z vs H Q E) : r_check_pairs Z (ends Q) (L2.start nm_check_pairs vs) H := by
  obtain ⟨sn, v, _, y, lims, rfl, rfl, ⟨l, xs, rfl, hl, ha⟩, hz, hb, k⟩ := h
  have hlen := ha.len
  show r_check_pairs Z (ends Q) [some (.str sn), some (.ref l), some (.int (lims.length : Int)), some (.int y), none] H
  unfold r_check_pairs ends
  walk_at "rd"
  refine ⟨small _ (by simp), fun t2 n2 => ?_⟩
  have s2 := same_new (o := .tup [V.ty "list", .ty "tuple"]) n2
  have e2 : (upd H t2 (.tup [V.ty "list", .ty "tuple"])) t2 = some (.tup [V.ty "list", .ty "tuple"]) := upd_same
  generalize upd H t2 (.tup [V.ty "list", .ty "tuple"]) = H2 at s2 e2
  have hl2 := s2 _ _ hl
  walk_at "rd"
  refine w_isiLT hl2 e2 ?_
  walk_at "rd"
  refine w_ite (fun h => by omega) (fun _ => ?_)
  walk_at "rd"
  refine forR (n := lims.length) (fun i σ H' => ∃ e, σ = [some (.str sn), some (.ref l), some (.int (lims.length : Int)), some (.int y), e] ∧ Same H H') ⟨_, rfl, s2⟩ ?_ ?_
  · rintro i σ H' hi ⟨e, rfl, s⟩
    obtain ⟨x, c, g0, g1, g2, ⟨t, y1, y2, rfl, g3, g4, g5⟩⟩ := l_to ha (i := i) (by omega)
    obtain rfl : y1 = .int c.1 := g4
    obtain rfl : y2 = .int c.2 := g5
    have hl3 := s _ _ hl
    have g3 := s _ _ g3
    show tIfS _ _ _ _ [some (.str sn), some (.ref l), some (.int (lims.length : Int)), some (.int y), some (.int (i : Int))] H'
    walk_at "rd"
    refine ⟨.ref t, 2, [c.1, c.2], rfl, ⟨t, rfl, .inr g3⟩, rfl, by omega, fun H3 s3 => ?_⟩
    have hl4 := s3 _ _ hl3
    have g4 := s3 _ _ g3
    walk_at "rd"
    refine w_ixTat 0 0 rfl g4 rfl ?_
    walk_at "rd"
    refine w_ixTat 1 1 rfl g4 rfl ?_
    walk_at "rd"
    refine w_ite (fun h => by have := hb c g2; omega) (fun _ => ?_)
    walk_at "rd"
    exact ⟨_, rfl, s.trans s3⟩
  · rintro σ H' ⟨e, rfl, s⟩
    exact k _ s
def sp_check_plain_lines (Z : Ctx) : Sp := fun vs H Q _ => ∃ u, ∃ w m : Nat, ∃ st : Row, ∃ L D : List Ln, ∃ K : List Lk, ∃ lims : List (Int × Int), ∃ G : List Edge, vs = [u] ∧ PlanAt Z H u w m st L D K ∧ Web w L lims G ∧ w ≤ 1000 ∧ G.length ≤ 1000 ∧ ∀ H', Same H H' → Q .non H'
abbrev r_check_plain_lines (Z : Ctx) : TS := (tFor (iRng1 (tCons (tCB (rLenG Z.K) (tCons (tFld Z.K (tVar 0) "line_list") tNil)) tNil)) (gName 1) (tIfS (tTest (tOp rIsNo (tCall (sp_plain_ends Z) [] E0 (tCons (tOp (rIxGT Z.K) (tOp (rIxG Z.K) (tFld Z.K (tVar 0) "line_list") (tVar 1)) (tC (.int 0))) tNil)) (tC .non))) tNever tNext))
theorem ln_check_plain_lines : sp_check_plain_lines Z vs H Q E → vs.length = 1 := by rintro ⟨_, _, _, _, _, _, _, _, _, rfl, _⟩; rfl
abbrev nm_check_plain_lines : List Str := ["plan", "line"]
theorem rd_check_plain_lines (PC : PlanCls Z) (h : sp_check_plain_lines Z vs H Q E) : r_check_plain_lines Z (ends Q) (L2.start nm_check_plain_lines vs) H := by
  obtain ⟨u, w, m, st, L, D, K, lims, G, rfl, ⟨a, dx, v1, v2, v3, v4, rfl, h1, _, ⟨ll, lx, rfl, hll, la⟩, _⟩, W, hw, hG, k⟩ := h
  have llen := la.len
  have lG := W.l1
  show r_check_plain_lines Z (ends Q) [some (.ref a), none] H
  unfold r_check_plain_lines ends
  walk_at "rd"
  refine ⟨a, _, dx, _, _, rfl, h1, PC.cl, PC.nl, lk_line, ?_⟩
  walk_at "rd"
  refine forR (n := lx.length) (fun i σ H' => ∃ e, σ = [some (.ref a), e] ∧ Same H H') ⟨_, rfl, .refl _⟩ ?_ ?_
  · rintro i σ H' hi ⟨e, rfl, s⟩
    have hiG : i < G.length := by omega
    have ge := List.getElem?_eq_getElem hiG
    generalize G[i] = e at ge
    obtain ⟨x, g1, g2, g3, g4, g5, _⟩ := W.ok i e ge
    obtain ⟨y, g6, ⟨t, sh, rfl, g7, g8⟩⟩ := la.get g1
    have h1' := s _ _ h1
    have hll' := s _ _ hll
    have g7 := s _ _ g7
    have g8 := s _ _ g8
    rw [g2] at g8
    show tIfS _ _ _ _ [some (.ref a), some (.int (i : Int))] H'
    walk_at "rd"
    refine ⟨a, _, dx, _, _, rfl, h1', PC.cl, PC.nl, lk_line, ?_⟩
    walk_at "rd"
    refine w_ixTat 0 0 rfl g7 rfl ?_
    walk_at "rd"
    refine ⟨.ref sh, w, e.a, e.b, rfl, rep_row_of g8, g3, g4, g5, hw, fun t2 H2 s2 n2 e2 => ?_⟩
    walk_at "rd"
    exact ⟨_, rfl, s.trans s2⟩
  · rintro σ H' ⟨e, rfl, s⟩
    exact k _ s
def sp_check_blocks (Z : Ctx) : Sp := fun vs H Q _ => ∃ u v, ∃ w m n : Nat, ∃ st : Row, ∃ L D : List Ln, ∃ K : List Lk, ∃ B : Mat, vs = [u, v] ∧ PlanAt Z H u w m st L D K ∧ rep H v B ∧ Blk w n B ∧ w ≤ 1000 ∧ ∀ H', Same H H' → Q .non H'
abbrev r_check_blocks (Z : Ctx) : TS := (tSeq (tAsg (tLst tNil) (gName 2)) (tFor (iList Z.K (tVar 1)) (gName 3) (tSeq (tIfS (tTest (tOp rEq (tCB (rLenG Z.K) (tCons (tVar 3) tNil)) (tC (.int 0)))) tNever tNext) (tFor (iList Z.K (tVar 3)) (gName 4) (tSeq (tIfS (tOr (tNot (tB (tCall (sp_is_whole Z) [] E0 (tCons (tVar 4) tNil)))) (tOr (tNot (tTest (tChain rLeI rLeI (tC (.int 1)) (tVar 4) (tFld Z.K (tVar 0) "book_count")))) (tTest (tOp (rIn Z.K false) (tVar 4) (tVar 2))))) tNever tNext) (tDrop (tBM Z.K "list" rAppend (tVar 2) (tCons (tVar 4) tNil))))))))
theorem ln_check_blocks : sp_check_blocks Z vs H Q E → vs.length = 2 := by rintro ⟨_, _, _, _, _, _, _, _, _, _, rfl, _⟩; rfl
abbrev nm_check_blocks : List Str := ["plan", "blocks", "seen", "block", "book"]
theorem rd_check_blocks (PC : PlanCls Z) (h : sp_check_blocks Z vs H Q E) : r_check_blocks Z (ends Q) (L2.start nm_check_blocks vs) H := by
  obtain ⟨u, v, w, m, n, st, L, D, K, B, rfl, ⟨a, dx, v1, v2, v3, v4, rfl, h1, _⟩, ⟨l, xs, rfl, hl, ha⟩, hB, hw, k⟩ := h
  have hlen := ha.len
  have fl := hB.fl
  show r_check_blocks Z (ends Q) [some (.ref a), some (.ref l), none, none, none] H
  unfold r_check_blocks ends
  walk_at "rd"
  refine ⟨by decide, fun D2 nD => ?_⟩
  have sD := same_new (o := .lst []) nD
  have eD : (upd H D2 (.lst [])) D2 = some (.lst []) := upd_same
  generalize upd H D2 (.lst []) = H0 at sD eD
  have hl0 := sD _ _ hl
  walk_at "rd"
  refine forL (xs := xs) (fun i σ H' => ∃ e3 e4, σ = [some (.ref a), some (.ref l), some (.ref D2), e3, e4] ∧ Same H H' ∧ H' D2 = some (.lst (((B.take i).flatten).map V.int))) ⟨_, _, rfl, sD, eD⟩ (fun i σ H' _ ⟨_, _, _, s, _⟩ => SqL.of (s _ _ hl)) ?_ ?_
  · rintro i x σ H' hi ⟨e3, e4, rfl, s, hD⟩
    have hi2 := (List.getElem?_eq_some_iff.mp hi).1
    obtain ⟨q, g1, g2⟩ := mat_at ha (i := i) (by omega)
    rw [g1] at hi
    cases hi
    have gq := s _ _ g2
    have bne := hB.ne _ (getD_mem (i := i) (m := B) (by omega))
    have bpos := List.length_pos_iff.mpr bne
    have lens : ((B.take i).flatten ++ B.getD i []).length ≤ B.flatten.length := by
      rw [← flat_take (by omega)]
      conv => rhs; rw [← List.take_append_drop (i + 1) B]
      rw [List.flatten_append, List.length_append]
      omega
    rw [List.length_append] at lens
    show tSeq _ _ _ [some (.ref a), some (.ref l), some (.ref D2), some (.ref q), e4] H'
    walk_at "rd"
    refine w_ite (fun h => by rw [lenV] at h; omega) (fun _ => ?_)
    walk_at "rd"
    refine forL (xs := (B.getD i []).map V.int) (fun j σ H'' => ∃ e4, σ = [some (.ref a), some (.ref l), some (.ref D2), some (.ref q), e4] ∧ Same H H'' ∧ H'' D2 = some (.lst (((B.take i).flatten ++ (B.getD i []).take j).map V.int))) ⟨_, rfl, s, by rw [List.take_zero, List.append_nil]; exact hD⟩ (fun j σ H'' _ ⟨_, _, s', _⟩ => SqL.of (s' _ _ g2)) ?_ ?_
    · rintro j x σ H'' hj ⟨e4, rfl, s', hD'⟩
      obtain ⟨z, hz2, rfl⟩ := row_at hj
      have hj2 := (List.getElem?_eq_some_iff.mp hz2).1
      have nin := flat_at (i := i) (by omega) hj2 hB.nd
      have zin := hB.inn z (List.mem_flatten.mpr ⟨_, getD_mem (i := i) (m := B) (by omega), List.mem_of_getElem? hz2⟩)
      have etk : (B.getD i []).take (j + 1) = (B.getD i []).take j ++ [z] := by
        rw [List.take_succ, hz2]
        rfl
      rw [etk]
      rw [at0_some hz2] at nin
      have h1' := s' _ _ h1
      have tl : ((B.getD i []).take j).length ≤ (B.getD i []).length := by rw [List.length_take]; omega
      generalize (B.getD i []).take j = bt at hD' nin tl
      show tSeq _ _ _ [some (.ref a), some (.ref l), some (.ref D2), some (.ref q), some (.int z)] H''
      walk_at "rd"
      refine ⟨z, rfl, ?_⟩
      walk_at "rd"
      refine w_ite (fun _ => ?_) (fun h => absurd zin.1 h)
      walk_at "rd"
      refine ⟨a, _, dx, _, _, rfl, h1', PC.cl, PC.nb, lk_book, ?_⟩
      walk_at "rd"
      rw [decide_eq_true zin.2]
      walk_at "rd"
      refine w_ite (fun h => absurd h nin) (fun _ => ?_)
      walk_at "rd"
      refine w_app hD' (by rw [lenV, List.length_append]; omega) ?_
      refine ⟨_, rfl, same_mut s' nD, ?_⟩
      rw [← List.append_assoc, List.map_append (l₁ := (B.take i).flatten ++ bt)]
      exact upd_same
    · rintro σ H'' ⟨e4, rfl, s', hD'⟩
      rw [lenV, List.take_length] at hD'
      refine ⟨_, _, rfl, s', ?_⟩
      rw [flat_take (by omega)]
      exact hD'
  · rintro σ H' ⟨e3, e4, rfl, s, hD⟩
    exact k _ s
/-- a group that may be asked -/
structure Grp (w : Nat) (B : Mat) (g : Row) : Prop where
  pos : 0 < g.length
  asc : Asc g
  inn : ∀ z ∈ g, 1 ≤ z ∧ z ≤ (w : Int)
  home : ∀ z ∈ g, bOf B z = bOf B (at0 g 0)
  part : bOf B (at0 g 0) < B.length → g.length ≠ (B.getD (bOf B (at0 g 0)) []).length
theorem Grp.len {w : Nat} {B : Mat} {g : Row} (h : Grp w B g) : g.length ≤ w + 1 := by
  have := asc_len (T := rangeR (w + 1)) h.asc fun x hx => rangeR_mem.mpr (by have := h.inn x hx; omega)
  rwa [rangeR_len] at this
def sp_check_group (Z : Ctx) : Sp := fun vs H Q _ => ∃ u v x, ∃ w m : Nat, ∃ st : Row, ∃ L D : List Ln, ∃ K : List Lk, ∃ B : Mat, ∃ g : Row, vs = [u, v, x] ∧ PlanAt Z H u w m st L D K ∧ rep H v B ∧ rep H x g ∧ Grp w B g ∧ B.length ≤ 1000 ∧ w ≤ 1000 ∧ Q .non H
abbrev r_check_group (Z : Ctx) : TS := (tSeq (tAsg (tC (.int 0)) (gName 3)) (tSeq (tFor (iList Z.K (tVar 2)) (gName 4) (tSeq (tIfS (tOr (tNot (tB (tCall (sp_is_whole Z) [] E0 (tCons (tVar 4) tNil)))) (tNot (tTest (tChain rLtI rLeI (tVar 3) (tVar 4) (tFld Z.K (tVar 0) "book_count"))))) tNever tNext) (tSeq (tIfS (tTest (tOp rNe (tCall (sp_block_of Z) [] E0 (tCons (tVar 1) (tCons (tVar 4) tNil))) (tCall (sp_block_of Z) [] E0 (tCons (tVar 1) (tCons (tOp (rIxG Z.K) (tVar 2) (tC (.int 0))) tNil))))) tNever tNext) (tAsg (tVar 4) (gName 3))))) (tSeq (tIfS (tTest (tOp rEq (tCB (rLenG Z.K) (tCons (tVar 2) tNil)) (tC (.int 0)))) tNever tNext) (tSeq (tAsg (tCall (sp_block_of Z) [] E0 (tCons (tVar 1) (tCons (tOp (rIxG Z.K) (tVar 2) (tC (.int 0))) tNil))) (gName 5)) (tIfS (tAnd (tTest (tOp rLtI (tVar 5) (tCB (rLenG Z.K) (tCons (tVar 1) tNil)))) (tTest (tOp rEq (tCB (rLenG Z.K) (tCons (tVar 2) tNil)) (tCB (rLenG Z.K) (tCons (tOp (rIxG Z.K) (tVar 1) (tVar 5)) tNil))))) tNever tNext)))))
theorem ln_check_group : sp_check_group Z vs H Q E → vs.length = 3 := by rintro ⟨_, _, _, _, _, _, _, _, _, _, _, rfl, _⟩; rfl
abbrev nm_check_group : List Str := ["plan", "blocks", "group", "before", "book", "home"]
theorem rd_check_group (PC : PlanCls Z) (h : sp_check_group Z vs H Q E) : r_check_group Z (ends Q) (L2.start nm_check_group vs) H := by
  obtain ⟨u, v, x, w, m, st, L, D, K, B, g, rfl, ⟨a, dx, v1, v2, v3, v4, rfl, h1, _⟩, hv, hx, hg, hB, hw, k⟩ := h
  have hv' := hv
  obtain ⟨l, xs, rfl, hl, ha⟩ := hv'
  obtain ⟨q, rfl, hq⟩ := rep_row.mp hx
  have hlen := ha.len
  have gp := hg.pos
  have gl := hg.len
  have g00 := at0_get (r := g) (i := 0) gp
  show r_check_group Z (ends Q) [some (.ref a), some (.ref l), some (.ref q), none, none, none] H
  unfold r_check_group ends
  walk_at "rd"
  refine forL (xs := g.map V.int) (fun i σ H' => ∃ e4, σ = [some (.ref a), some (.ref l), some (.ref q), some (.int (if i = 0 then 0 else at0 g (i - 1))), e4, none] ∧ H' = H) ⟨_, rfl, rfl⟩ (fun i σ H' _ ⟨_, _, s⟩ => s ▸ SqL.of hq) ?_ ?_
  · rintro i x σ H' hi ⟨e4, rfl, rfl⟩
    obtain ⟨z, hz2, rfl⟩ := row_at hi
    have hi2 := (List.getElem?_eq_some_iff.mp hz2).1
    have zin := hg.inn z (List.mem_of_getElem? hz2)
    have zh := hg.home z (List.mem_of_getElem? hz2)
    have lt : (if i = 0 then 0 else at0 g (i - 1)) < z := by
      by_cases c : i = 0
      · rw [if_pos c]; omega
      · rw [if_neg c]
        have := List.pairwise_iff_getElem.mp hg.asc (i - 1) i (by omega) hi2 (by omega)
        rw [List.getElem?_eq_getElem hi2] at hz2
        injection hz2 with hz2
        have e1 : at0 g (i - 1) = g[i - 1] := at0_some (List.getElem?_eq_getElem _)
        rw [e1, ← hz2]
        exact this
    generalize (if i = 0 then 0 else at0 g (i - 1)) = bef at lt
    show tSeq _ _ _ [some (.ref a), some (.ref l), some (.ref q), some (.int bef), some (.int z), none] H'
    walk_at "rd"
    refine ⟨z, rfl, ?_⟩
    walk_at "rd"
    refine w_ite (fun _ => ?_) (fun h => absurd lt h)
    walk_at "rd"
    refine ⟨a, _, dx, _, _, rfl, h1, PC.cl, PC.nb, lk_book, ?_⟩
    walk_at "rd"
    rw [decide_eq_true zin.2]
    walk_at "rd"
    refine ⟨.ref l, z, B, rfl, hv, hB, ?_⟩
    walk_at "rd"
    refine w_ixAt 0 0 rfl hq (by rw [List.getElem?_map, g00]; rfl) ?_
    walk_at "rd"
    refine ⟨.ref l, at0 g 0, B, rfl, hv, hB, ?_⟩
    walk_at "rd"
    refine w_ite (fun h => by omega) (fun _ => ?_)
    walk_at "rd"
    have eb : (if i + 1 = 0 then 0 else at0 g (i + 1 - 1)) = z := by rw [if_neg (by omega), show i + 1 - 1 = i from rfl, at0_some hz2]
    rw [eb]
    exact ⟨_, rfl, rfl⟩
  · rintro σ H' ⟨e4, rfl, rfl⟩
    walk_at "rd"
    refine w_ite (fun h => by rw [lenV] at h; omega) (fun _ => ?_)
    walk_at "rd"
    refine w_ixAt 0 0 rfl hq (by rw [List.getElem?_map, g00]; rfl) ?_
    walk_at "rd"
    refine ⟨.ref l, at0 g 0, B, rfl, hv, hB, ?_⟩
    walk_at "rd"
    refine w_ite (fun h => ?_) (fun _ => ?_)
    · obtain ⟨y, g1, g2⟩ := mat_at ha (i := bOf B (at0 g 0)) (by omega)
      have := hg.part (by omega)
      walk_at "rd"
      refine w_ite (fun h => by rw [lenV, lenV] at h; omega) (fun _ => ?_)
      walk_at "rd"
      exact k
    · walk_at "rd"
      exact k
/-- the sums of all blocks -/
def sumsOf (tots : Row) : Row := tots ++ [-tots.sum]
def sp_ranges_of (Z : Ctx) : Sp := fun vs H Q _ => ∃ u v x y g, ∃ w m n : Nat, ∃ st : Row, ∃ L D : List Ln, ∃ K : List Lk, ∃ lims : List (Int × Int), ∃ G : List Edge, ∃ B : Mat, ∃ tots group : Row, vs = [u, v, x, y, g] ∧ Rg Z H u v w m st L D K lims G ∧ rep H x B ∧ rep H y tots ∧ rep H g group ∧ Blk w n B ∧ n ≤ 4 ∧ w ≤ 100 ∧ Grp w B group ∧ tots.length = B.length ∧ (∀ z ∈ tots, -1000000000000000000000000000000 ≤ z ∧ z ≤ 1000000000000000000000000000000) ∧ st.length ≤ 1000 ∧ (∀ i, at0 st i = 0) ∧
  (∀ num, faultOf (wholeOf w B) G (sumsOf tots) = some num → ∀ t H', Same H H' → repNev H' (.ref t) (nevOf (wholeOf w B) G (sumsOf tots) num) → Q (.ref t) H') ∧
  (faultOf (wholeOf w B) G (sumsOf tots) = none → ∀ lo ls hi hs, bestF 0 (boundF (wholeOf w B) G (sumsOf tots) group 0) (sets (othersOf (wholeOf w B) (at0 group 0)) (othersOf (wholeOf w B) (at0 group 0)).length) = some (lo, ls) → bestF 1 (boundF (wholeOf w B) G (sumsOf tots) group 1) (sets (othersOf (wholeOf w B) (at0 group 0)) (othersOf (wholeOf w B) (at0 group 0)).length) = some (hi, hs) →
    ∀ t q1 q2 H', Same H H' → H' t = some (.tup [.str "from", .int lo, .int hi, .ref q1, .ref q2]) → H' q1 = some (.lst (ls.map V.int)) → H' q2 = some (.lst (hs.map V.int)) → Q (.ref t) H')
abbrev r_ranges_of (Z : Ctx) : TS := (tSeq (tDrop (tCall (sp_check_pair_numbers Z) [] E0 (tCons (tVar 1) (tCons (tC (.int 1000000)) tNil)))) (tSeq (tDrop (tCall (sp_check_numbers Z) [] E0 (tCons (tVar 3) (tCons (tC (.int 1000000000000000000000000000000)) tNil)))) (tSeq (tDrop (tCall (sp_check_plain_lines Z) [] E0 (tCons (tVar 0) tNil))) (tSeq (tDrop (tCall (sp_check_still Z) [] E0 (tCons (tVar 0) tNil))) (tSeq (tDrop (tCall (sp_check_pairs Z) [] E0 (tCons (tC (.str "limits")) (tCons (tVar 1) (tCons (tCB (rLenG Z.K) (tCons (tFld Z.K (tVar 0) "line_list") tNil)) (tCons (tC (.int 0)) tNil)))))) (tSeq (tDrop (tCall (sp_check_blocks Z) [] E0 (tCons (tVar 0) (tCons (tVar 2) tNil)))) (tSeq (tIfS (tNot (tB (tCall (sp_whole_list Z) [] E0 (tCons (tVar 3) (tCons (tCB (rLenG Z.K) (tCons (tVar 2) tNil)) tNil))))) tNever tNext) (tSeq (tDrop (tCall (sp_check_group Z) [] E0 (tCons (tVar 0) (tCons (tVar 2) (tCons (tVar 4) tNil))))) (tSeq (tAsg (tCall (sp_all_blocks Z) [] E0 (tCons (tVar 0) (tCons (tVar 2) tNil))) (gName 5)) (tSeq (tAsg (tOp rCat (tCB (rLstG Z.K) (tCons (tVar 3) tNil)) (tLst (tCons (tUn uNegI (tCB (rSum Z.K) (tCons (tVar 3) tNil))) tNil))) (gName 6)) (tSeq (tAsg (tCall (sp_block_fault Z) [] E0 (tCons (tVar 0) (tCons (tVar 1) (tCons (tVar 5) (tCons (tVar 6) tNil))))) (gName 7)) (tSeq (tIfS (tTest (tOp rNotNo (tVar 7) (tC .non))) (tRet (tVar 7)) tNext) (tSeq (tAsg (tCall (sp_best_bound Z) [] E0 (tCons (tVar 0) (tCons (tVar 1) (tCons (tVar 5) (tCons (tVar 6) (tCons (tVar 4) (tCons (tC (.int 0)) tNil))))))) (gTup Z.K 2 (gCons (gName 8) (gCons (gName 9) gNil)))) (tSeq (tAsg (tCall (sp_best_bound Z) [] E0 (tCons (tVar 0) (tCons (tVar 1) (tCons (tVar 5) (tCons (tVar 6) (tCons (tVar 4) (tCons (tC (.int 1)) tNil))))))) (gTup Z.K 2 (gCons (gName 10) (gCons (gName 11) gNil)))) (tRet (tTup (tCons (tC (.str "from")) (tCons (tVar 8) (tCons (tVar 10) (tCons (tVar 9) (tCons (tVar 11) tNil)))))))))))))))))))))
theorem ln_ranges_of : sp_ranges_of Z vs H Q E → vs.length = 5 := by rintro ⟨_, _, _, _, _, _, _, _, _, _, _, _, _, _, _, _, _, rfl, _⟩; rfl
abbrev nm_ranges_of : List Str := ["plan", "limits", "blocks", "totals", "group", "whole", "sums", "fault", "low", "low_set", "high", "high_set"]
theorem rd_ranges_of (PC : PlanCls Z) (h : sp_ranges_of Z vs H Q E) : r_ranges_of Z (ends Q) (L2.start nm_ranges_of vs) H := by
  obtain ⟨u, v, x, y, g, w, m, n, st, L, D, K, lims, G, B, tots, group, rfl, R, hx, hy, hg, hB, hn, hw, hGrp, hlt, hb, hst, hst0, k1, k2⟩ := h
  obtain ⟨p, rfl, hp⟩ := rep_row.mp hy
  have W := R.fw
  have hBl := hB.len
  have wl := whole_len (w := w) (B := B)
  have gl := hGrp.len
  have llims : lims.length = G.length := by rw [W.l2, List.length_map]
  have gG := R.fg
  have lb : ∀ c ∈ lims, c.1 ≤ c.2 ∧ -1000 ≤ c.1 ∧ c.2 ≤ 1000 := fun c hc => by
    rw [W.l2] at hc
    obtain ⟨e, he, rfl⟩ := List.mem_map.mp hc
    obtain ⟨i, hi, e2⟩ := List.getElem_of_mem he
    obtain ⟨_, _, _, _, _, _, b1, b2, b3⟩ := W.ok i e (by rw [List.getElem?_eq_getElem hi, e2])
    exact ⟨b1, b2, b3⟩
  show r_ranges_of Z (ends Q) [some u, some v, some x, some (.ref p), some g, none, none, none, none, none, none, none] H
  unfold r_ranges_of ends
  walk_at "rd"
  refine ⟨v, _, lims, rfl, R.fl, fun c hc => by have := lb c hc; omega, fun H1 s1 => ?_⟩
  walk_at "rd"
  refine ⟨.ref p, _, tots, rfl, .row (rep_row_of (s1 _ _ hp)), hb, ?_⟩
  walk_at "rd"
  refine ⟨u, w, m, st, L, D, K, lims, G, rfl, R.fp.mono s1, W, by omega, R.fg, fun H2 s2 => ?_⟩
  have s02 := s1.trans s2
  walk_at "rd"
  refine ⟨u, w, m, st, L, D, K, rfl, R.fp.mono s02, hst, hst0, fun H3 s3 => ?_⟩
  have s03 := s02.trans s3
  obtain ⟨a, dx, v1, v2, v3, v4, eu, h1, h2, ⟨ll, lx, e2, hll, la⟩, h4⟩ := R.fp
  subst eu
  subst e2
  have llen := la.len
  have lLG := W.l1
  have hll3 := s03 _ _ hll
  walk_at "rd"
  refine ⟨a, _, dx, _, _, rfl, s03 _ _ h1, PC.cl, PC.nl, lk_line, ?_⟩
  walk_at "rd"
  refine ⟨_, v, _, _, lims, rfl, by omega, Rep.mono s03 R.fl, by omega, fun c hc => (lb c hc).1, fun H4 s4 => ?_⟩
  have s04 := s03.trans s4
  walk_at "rd"
  refine ⟨.ref a, x, w, m, n, st, L, D, K, B, rfl, R.fp.mono s04, Rep.mono s04 hx, hB, by omega, fun H5 s5 => ?_⟩
  have s05 := s04.trans s5
  have hx' := hx
  obtain ⟨bl, bx, rfl, hbl, ba⟩ := hx'
  have blen := ba.len
  have hbl5 := s05 _ _ hbl
  walk_at "rd"
  rw [blen]
  refine ⟨.ref p, B.length, tots, rfl, .row (rep_row_of (s05 _ _ hp)), hlt, by omega, fun H6 s6 => ?_⟩
  have s06 := s05.trans s6
  walk_at "rd"
  refine ⟨.ref a, .ref bl, g, w, m, st, L, D, K, B, group, rfl, R.fp.mono s06, Rep.mono s06 hx, Rep.mono s06 hg, hGrp, by omega, by omega, ?_⟩
  walk_at "rd"
  refine ⟨.ref a, .ref bl, w, m, st, L, D, K, B, fun _ => False, rfl, R.fp.mono s06, Rep.mono (fun a o e => off_in (fun z => z) (s06 a o e)) hx, fun _ z => z.elim, by omega, by omega, fun wv H7 s7 rw7 => ?_⟩
  have rw7 := Rep.mono off_same rw7
  have s07 := s06.trans s7
  have hp7 := s07 _ _ hp
  walk_at "rd"
  refine w_lst hp7 fun c1 n1 => ?_
  have t1 := same_new (o := .lst (tots.map V.int)) n1
  have d1 : (upd H7 c1 (.lst (tots.map V.int))) c1 = some (.lst (tots.map V.int)) := upd_same
  generalize upd H7 c1 (.lst (tots.map V.int)) = H8 at t1 d1
  walk_at "rd"
  refine w_sum (t1 _ _ hp7) ?_
  walk_at "rd"
  refine ⟨small _ (by simp), fun c2 n2 => ?_⟩
  have t2 := same_new (o := .lst [V.int (-tots.sum)]) n2
  have d2 : (upd H8 c2 (.lst [V.int (-tots.sum)])) c2 = some (.lst [V.int (-tots.sum)]) := upd_same
  generalize upd H8 c2 (.lst [V.int (-tots.sum)]) = H9 at t2 d2
  refine w_cat (t2 _ _ d1) d2 (by rw [lenV]; simp; omega) fun c3 n3 => ?_
  have t3 := same_new (o := .lst (tots.map V.int ++ [V.int (-tots.sum)])) n3
  have d3 : (upd H9 c3 (.lst (tots.map V.int ++ [V.int (-tots.sum)]))) c3 = some (.lst ((sumsOf tots).map V.int)) := by unfold sumsOf; rw [List.map_append]; exact upd_same
  generalize upd H9 c3 (.lst (tots.map V.int ++ [V.int (-tots.sum)])) = H10 at t3 d3
  have s710 := t1.trans (t2.trans t3)
  have s010 := s07.trans s710
  have R10 := R.mono s010
  have w10 := Rep.mono s710 rw7
  have sl : (sumsOf tots).length = (wholeOf w B).length := by unfold sumsOf; rw [List.length_append, wl, hlt]; rfl
  have wbl : ∀ b ∈ wholeOf w B, b.length ≤ 1000 := fun b hb => by have := whole_bl hB b hb; omega
  walk_at "rd"
  refine ⟨.ref a, v, wv, .ref c3, w, m, st, L, D, K, lims, G, wholeOf w B, sumsOf tots, rfl, R10, w10, rep_row_of d3, by omega, sl, wbl, fun hf H11 s11 => ?_, fun num hf t H11 s11 rn => ?_⟩
  · have s011 := s010.trans s11
    walk_at "rd"
    obtain ⟨lo, ls, e1⟩ := best_some (side := 0) (f := boundF (wholeOf w B) G (sumsOf tots) group 0) (sets_ne (T := othersOf (wholeOf w B) (at0 group 0)) (n := (othersOf (wholeOf w B) (at0 group 0)).length))
    obtain ⟨hi, hs, e2⟩ := best_some (side := 1) (f := boundF (wholeOf w B) G (sumsOf tots) group 1) (sets_ne (T := othersOf (wholeOf w B) (at0 group 0)) (n := (othersOf (wholeOf w B) (at0 group 0)).length))
    refine ⟨.ref a, v, wv, .ref c3, g, 0, w, m, 0, st, L, D, K, lims, G, wholeOf w B, sumsOf tots, group, rfl, rfl, R.mono s011, Rep.mono s11 w10, rep_row_of (s11 _ _ d3), Rep.mono s011 hg, by omega, sl, wbl, hGrp.pos, by omega, .inl rfl, fun b1 H12 s12 hb1 => ?_⟩
    rw [e1] at hb1
    obtain ⟨t1', q1, rfl, f1, f2⟩ := hb1
    refine w_gtup2 f1 ?_
    show tSeq _ _ _ [some (.ref a), some v, some (.ref bl), some (.ref p), some g, some wv, some (.ref c3), some .non, some (.int lo), some (.ref q1), none, none] H12
    have s012 := s011.trans s12
    walk_at "rd"
    refine ⟨.ref a, v, wv, .ref c3, g, 1, w, m, 1, st, L, D, K, lims, G, wholeOf w B, sumsOf tots, group, rfl, rfl, R.mono s012, Rep.mono (s11.trans s12) w10, rep_row_of ((s11.trans s12) _ _ d3), Rep.mono s012 hg, by omega, sl, wbl, hGrp.pos, by omega, .inr rfl, fun b2 H13 s13 hb2 => ?_⟩
    rw [e2] at hb2
    obtain ⟨t2', q2, rfl, f3, f4⟩ := hb2
    refine w_gtup2 f3 ?_
    show tRet _ _ [some (.ref a), some v, some (.ref bl), some (.ref p), some g, some wv, some (.ref c3), some .non, some (.int lo), some (.ref q1), some (.int hi), some (.ref q2)] H13
    walk_at "rd"
    refine ⟨small _ (by simp), fun t9 n9 => ?_⟩
    have t9s := same_new (o := .tup [V.str "from", .int lo, .int hi, .ref q1, .ref q2]) n9
    exact k2 hf lo ls hi hs e1 e2 t9 q1 q2 _ (s012.trans (s13.trans t9s)) upd_same (t9s _ _ (s13 _ _ f2)) (t9s _ _ f4)
  · walk_at "rd"
    exact k1 num hf t H11 (s010.trans s11) rn
end
end G
end
section
set_option Elab.async false
set_option linter.all false
set_option maxRecDepth 100000
namespace G
open PySem L2 PyProof.Rows
local macro_rules | `(tactic| walk_at "rd") => `(tactic| repeat (first
  | (with_reducible refine v_seq ?_)
  | (with_reducible refine v_asg ?_)
  | (with_reducible refine w_cons ?_)
  | (with_reducible refine w_nil ?_)
  | (with_reducible refine w_op ?_)
  | (with_reducible refine w_c ?_)
  | (with_reducible refine w_I0 ?_)
  | (with_reducible refine w_cb ?_)
  | (with_reducible refine w_call ?_)
  | (with_reducible refine v_ret ?_)
  | (with_reducible refine v_next ?_)
  | (with_reducible refine w_ixR (by assumption) (by assumption) ?_)
  | (with_reducible refine w_ix (by assumption) (by assumption) ?_)
  | (with_reducible refine w_test ?_)
  | (with_reducible refine w_tB ?_)
  | (with_reducible refine w_and ?_)
  | (with_reducible refine w_or ?_)
  | (with_reducible refine w_not ?_)
  | (with_reducible refine w_ifE ?_)
  | (with_reducible refine v_ifS ?_)
  | (with_reducible refine w_tt ?_)
  | (with_reducible refine w_ff ?_)
  | (with_reducible refine w_eqI ?_)
  | (with_reducible refine w_neI ?_)
  | (with_reducible refine w_U ?_)
  | (with_reducible refine w_un ?_)
  | (with_reducible refine w_len (by assumption) ?_)
  | (with_reducible refine w_abs ?_)
  | (with_reducible refine w_int ?_)
  | (with_reducible refine w_isN0 ?_)
  | (with_reducible refine w_isN1 (by assumption) ?_)
  | (with_reducible refine w_isN1 ne_in ?_)
  | (with_reducible refine w_isN1 ne_rn ?_)
  | (with_reducible refine w_notN0 ?_)
  | (with_reducible refine w_notN1 ne_in ?_)
  | (with_reducible refine w_notN1 ne_rn ?_)
  | (with_reducible refine v_lst ?_)
  | (with_reducible refine v_tup ?_)
  | (with_reducible refine w_notN1 (by assumption) ?_)
  | (with_reducible refine v_drop ?_)
  | (with_reducible refine w_bm ?_)
  | (with_reducible refine v_for ?_)
  | (with_reducible refine v_rng1 ?_)
  | (with_reducible refine v_rng2 ?_)
  | (with_reducible refine v_list ?_)
  | (with_reducible refine w_sub ?_)
  | (with_reducible refine v_ip ?_)
  | (with_reducible refine v_augS ?_)
  | (with_reducible refine v_retN ?_)
  | (with_reducible refine w_yes ?_)
  | (with_reducible refine tv_0 ?_)
  | (with_reducible refine nv_0 ?_)
  | (with_reducible refine av_0 ?_)
  | (with_reducible refine tv_1 ?_)
  | (with_reducible refine nv_1 ?_)
  | (with_reducible refine av_1 ?_)
  | (with_reducible refine tv_2 ?_)
  | (with_reducible refine nv_2 ?_)
  | (with_reducible refine av_2 ?_)
  | (with_reducible refine tv_3 ?_)
  | (with_reducible refine nv_3 ?_)
  | (with_reducible refine av_3 ?_)
  | (with_reducible refine tv_4 ?_)
  | (with_reducible refine nv_4 ?_)
  | (with_reducible refine av_4 ?_)
  | (with_reducible refine tv_5 ?_)
  | (with_reducible refine nv_5 ?_)
  | (with_reducible refine av_5 ?_)
  | (with_reducible refine tv_6 ?_)
  | (with_reducible refine nv_6 ?_)
  | (with_reducible refine av_6 ?_)
  | (with_reducible refine tv_7 ?_)
  | (with_reducible refine nv_7 ?_)
  | (with_reducible refine av_7 ?_)
  | (with_reducible refine tv_8 ?_)
  | (with_reducible refine nv_8 ?_)
  | (with_reducible refine av_8 ?_)
  | (with_reducible refine tv_9 ?_)
  | (with_reducible refine nv_9 ?_)
  | (with_reducible refine av_9 ?_)
  | (with_reducible refine tv_10 ?_)
  | (with_reducible refine nv_10 ?_)
  | (with_reducible refine av_10 ?_)
  | (with_reducible refine tv_11 ?_)
  | (with_reducible refine nv_11 ?_)
  | (with_reducible refine av_11 ?_)
  | (with_reducible refine tv_12 ?_)
  | (with_reducible refine nv_12 ?_)
  | (with_reducible refine av_12 ?_)
  | (with_reducible refine tv_13 ?_)
  | (with_reducible refine nv_13 ?_)
  | (with_reducible refine av_13 ?_)
  | (with_reducible refine tv_14 ?_)
  | (with_reducible refine nv_14 ?_)
  | (with_reducible refine av_14 ?_)
  | (with_reducible refine tv_15 ?_)
  | (with_reducible refine nv_15 ?_)
  | (with_reducible refine av_15 ?_)
  | (with_reducible refine tv_16 ?_)
  | (with_reducible refine nv_16 ?_)
  | (with_reducible refine av_16 ?_)
  | (with_reducible refine tv_17 ?_)
  | (with_reducible refine nv_17 ?_)
  | (with_reducible refine av_17 ?_)
  | (with_reducible refine tv_18 ?_)
  | (with_reducible refine nv_18 ?_)
  | (with_reducible refine av_18 ?_)
  | (with_reducible refine tv_19 ?_)
  | (with_reducible refine nv_19 ?_)
  | (with_reducible refine av_19 ?_)
  | (with_reducible refine tv_20 ?_)
  | (with_reducible refine nv_20 ?_)
  | (with_reducible refine av_20 ?_)
  | (with_reducible refine tv_21 ?_)
  | (with_reducible refine nv_21 ?_)
  | (with_reducible refine av_21 ?_)
  | (with_reducible refine tv_22 ?_)
  | (with_reducible refine nv_22 ?_)
  | (with_reducible refine av_22 ?_)
  | (with_reducible refine tv_23 ?_)
  | (with_reducible refine nv_23 ?_)
  | (with_reducible refine av_23 ?_)
  | (with_reducible refine tv_24 ?_)
  | (with_reducible refine nv_24 ?_)
  | (with_reducible refine av_24 ?_)
  | (with_reducible refine tv_25 ?_)
  | (with_reducible refine nv_25 ?_)
  | (with_reducible refine av_25 ?_)
  | (with_reducible refine ⟨_, rfl, ⟨_, SqL.of (by assumption)⟩, ?_⟩)
  | (with_reducible refine ⟨_, rfl, (by omega), (by omega), ?_⟩)
  | (with_reducible refine ⟨w_tyL (by assumption), ?_⟩)
  | (with_reducible refine w_isiII ?_)
  | (with_reducible refine w_isiIB ?_)
  | (with_reducible refine w_isiBB ?_)
  | (with_reducible refine w_isiBI ?_)
  | (with_reducible refine w_isiNL ?_)
  | (with_reducible refine w_isiLL (by assumption) ?_)
  | (with_reducible refine v_sl ?_)
  | (with_reducible refine w_nff ?_)
  | (with_reducible refine w_ntt ?_)
  | (with_reducible refine v_chain ?_)
  | (with_reducible refine v_andV ?_)
  | (with_reducible refine v_orV ?_)
  | (with_reducible refine v_chain3 ?_)
  | (with_reducible refine w_min2 ?_)
  | (with_reducible refine v_lstRg ?_)
  | (with_reducible refine w_in (by assumption) ?_)
  | (with_reducible refine w_nin (by assumption) ?_)
  | (with_reducible refine v_notV ?_)
  | (with_reducible refine v_noP ?_)
  | (with_reducible refine v_part ?_)
  | (with_reducible refine v_fld ?_)
  | (with_reducible refine v_sfld ?_)
  | (with_reducible refine ⟨_, (rfl : V.bl _ = V.bl _), ?_⟩)
  | (with_reducible refine ⟨_, (rfl : V.ref _ = V.ref _), ?_⟩)
  | (with_reducible refine ⟨_, (rfl : [V.int _] = [V.int _]), ?_⟩)
  | (with_reducible refine ⟨_, (rfl : V.int _ = V.int _), ?_⟩)
  | (with_reducible refine ⟨⟨_, SqL.of (by assumption)⟩, ?_⟩)
  | (with_reducible refine ⟨(by (first | omega | (rw [lenV]; omega)) : -(2 ^ 62) ≤ _), (by first | omega | (rw [lenV]; omega)), ?_⟩)
  | (with_reducible refine v_meth ?_)
  | (with_reducible refine v_make ?_)
  | (with_reducible refine w_neBB ?_)
  | (with_reducible refine w_eqBB ?_)
  | (with_reducible refine w_isiRI (by assumption) ?_)
  ))
theorem best_first {side : Nat} {f : Row → Int} (l : Mat) : ∀ b s, bestF side f l = some (b, s) → f s = b ∧ s ∈ l ∧ (∀ r ∈ l, if side = 1 then b ≤ f r else f r ≤ b) ∧ l.find? (fun r => decide (f r = b)) = some s := by
  have key : ∀ (n : Nat) (l : Mat), l.length = n → ∀ b s, bestF side f l = some (b, s) → f s = b ∧ s ∈ l ∧ (∀ r ∈ l, if side = 1 then b ≤ f r else f r ≤ b) ∧ l.find? (fun r => decide (f r = b)) = some s := by
    intro n
    induction n with
    | zero =>
      intro l hl b s h
      have : l = [] := List.eq_nil_of_length_eq_zero hl
      subst this
      cases h
    | succ n ih =>
      intro l hl b s h
      obtain ⟨k, x, rfl⟩ : ∃ k x, l = k ++ [x] := by
        have : l ≠ [] := fun q => by rw [q] at hl; cases hl
        exact ⟨l.dropLast, l.getLast this, (List.dropLast_concat_getLast this).symm⟩
      have hk : k.length = n := by simpa using hl
      have e : bestF side f (k ++ [x]) = bestStep side f (bestF side f k) x := by
        unfold bestF
        rw [List.foldl_append]
        rfl
      rw [e] at h
      cases hb : bestF side f k with
      | none =>
        rw [hb] at h
        have h : some (f x, x) = some (b, s) := h
        injection h with h
        injection h with h1 h2
        subst h1
        subst h2
        have kn : k = [] := Classical.byContradiction fun q => by
          obtain ⟨b', s', e'⟩ := best_some (side := side) (f := f) q
          rw [hb] at e'
          cases e'
        subst kn
        refine ⟨rfl, by simp, fun r hr => ?_, by simp⟩
        have : r = x := by simpa using hr
        subst this
        split <;> exact Int.le_refl _
      | some c =>
        obtain ⟨b0, s0⟩ := c
        rw [hb] at h
        obtain ⟨i1, i2, i3, i4⟩ := ih k hk b0 s0 hb
        by_cases c : (if side = 1 then f x < b0 else b0 < f x)
        · rw [best_yes c] at h
          injection h with h
          injection h with h1 h2
          subst h1
          subst h2
          refine ⟨rfl, by simp, fun r hr => ?_, ?_⟩
          · rcases List.mem_append.mp hr with z | z
            · have := i3 r z
              by_cases hs : side = 1
              · rw [if_pos hs] at c this ⊢; omega
              · rw [if_neg hs] at c this ⊢; omega
            · rw [List.mem_singleton.mp z]
              split <;> exact Int.le_refl _
          · rw [List.find?_append]
            have : k.find? (fun r => decide (f r = f x)) = none := List.find?_eq_none.mpr fun r hr q => by
              have q := of_decide_eq_true q
              have := i3 r hr
              by_cases hs : side = 1
              · rw [if_pos hs] at c this; omega
              · rw [if_neg hs] at c this; omega
            rw [this]
            simp
        · rw [best_no c] at h
          injection h with h
          injection h with h1 h2
          subst h1
          subst h2
          refine ⟨i1, List.mem_append_left _ i2, fun r hr => ?_, by rw [List.find?_append, i4]; rfl⟩
          rcases List.mem_append.mp hr with z | z
          · exact i3 r z
          · rw [List.mem_singleton.mp z]
            by_cases hs : side = 1
            · rw [if_pos hs] at c ⊢; omega
            · rw [if_neg hs] at c ⊢; omega
  exact key l.length l rfl
theorem nev_eq {a b : Nev} : a = b ↔ a.num = b.num ∧ a.tot = b.tot ∧ a.lim = b.lim := by
  constructor
  · rintro rfl
    exact ⟨rfl, rfl, rfl⟩
  · obtain ⟨a1, a2, a3⟩ := a
    obtain ⟨b1, b2, b3⟩ := b
    rintro ⟨rfl, rfl, rfl⟩
    rfl
instance : DecidableEq Nev := fun a b => decidable_of_iff _ nev_eq.symm
instance : Rep Nev := ⟨repNev, fun s h => h.mono s⟩
instance : Dat Nev where
  dat := fun x => .tuple [.str "never", Dat.dat x.num, .int x.tot, .int x.lim]
  dep := Dat.dep Row + 1
  dp := fun {K H v a} h => by
    obtain ⟨t, q, rfl, h1, h2⟩ := h
    exact .tup (SqT.of h1) (.cons (.str _) (.cons (Dat.dp (show rep H (.ref q) a.num from rep_row_of h2)) (.cons (.int _) (.cons (.int _) .nil))))
  lay := fun a => by
    obtain ⟨h1, h2⟩ := Dat.lay a.num
    simp only [PyData.canLay0, PyData.canLayAll0, PyData.depth, PyData.depthAll, h1]
    exact ⟨by decide +kernel, by omega⟩
  eqv := fun a b => by
    have := Dat.eqv a.num b.num
    simp only [PyData.eqv, PyData.eqvAll]
    rw [this]
    have e : decide (a = b) = decide (a.num = b.num ∧ a.tot = b.tot ∧ a.lim = b.lim) := decide_eq_decide.mpr nev_eq
    rw [e]
    by_cases h1 : a.num = b.num <;> by_cases h2 : a.tot = b.tot <;> by_cases h3 : a.lim = b.lim <;> simp [h1, h2, h3]
section
variable {Z : Ctx} {vs : List V} {H : Hp} {Q : VK} {E : XK}
structure Wg (Z : Ctx) (H : Hp) (u v : V) (w m : Nat) (L : List Ln) (lims : List (Int × Int)) (G : List Edge) : Prop where
  fp : WorldAt H u w m L
  fl : rep H v lims
  fw : Web w L lims G
  f9 : w ≤ 1000
  fg : G.length ≤ 1000
theorem Wg.mono {H' : Hp} {u v : V} {w m : Nat} {L : List Ln} {lims : List (Int × Int)} {G : List Edge} (h : Wg Z H u v w m L lims G) (s : Same H H') : Wg Z H' u v w m L lims G := ⟨h.fp.mono s, Rep.mono s h.fl, h.fw, h.f9, h.fg⟩
def sp_law_never (Z : Ctx) : Sp := fun vs H Q _ => ∃ u v x y t, ∃ w m : Nat, ∃ L : List Ln, ∃ lims : List (Int × Int), ∃ G : List Edge, ∃ Wh : Mat, ∃ sums num : Row, vs = [u, v, x, y, t] ∧ Wg Z H u v w m L lims G ∧ rep H x Wh ∧ rep H y sums ∧ Wh.length ≤ 5 ∧ sums.length = Wh.length ∧ (∀ b ∈ Wh, b.length ≤ 1000) ∧ faultOf Wh G sums = some num ∧ repNev H t (nevOf Wh G sums num) ∧ ∀ H', Same H H' → Q (.bl true) H'
abbrev r_law_never (Z : Ctx) : TS := (tSeq (tFor (iList Z.K (tCall (sp_law_sets Z) [] E0 (tCons (tLstRg (tRg1 (tCB (rLenG Z.K) (tCons (tVar 2) tNil)))) (tCons (tCB (rLenG Z.K) (tCons (tVar 2) tNil)) tNil)))) (gName 5) (tSeq (tAsg (tCall (sp_law_joined_blocks Z) [] E0 (tCons (tVar 2) (tCons (tVar 5) tNil))) (gName 6)) (tSeq (tAsg (tCB (rSum Z.K) (tCons (tLc (iList Z.K (tVar 5)) (gName 8) tYes (tOp (rIxG Z.K) (tVar 3) (tVar 8)) [8]) tNil)) (gName 7)) (tSeq (tAsg (tCall (sp_law_brought Z) [] E0 (tCons (tVar 0) (tCons (tVar 1) (tCons (tVar 6) (tCons (tC (.int 1)) tNil))))) (gName 9)) (tSeq (tAsg (tCall (sp_law_brought Z) [] E0 (tCons (tVar 0) (tCons (tVar 1) (tCons (tVar 6) (tCons (tC (.int 0)) tNil))))) (gName 10)) (tIfS (tNot (tTest (tChain rLeI rLeI (tVar 10) (tVar 7) (tVar 9)))) (tRet (tOp (rEqD Z.K) (tVar 4) (tTup (tCons (tC (.str "never")) (tCons (tVar 5) (tCons (tVar 7) (tCons (tIf (tTest (tOp rGtI (tVar 7) (tVar 9))) (tVar 9) (tVar 10)) tNil))))))) tNext)))))) (tRet (tC (.bl false))))
theorem ln_law_never : sp_law_never Z vs H Q E → vs.length = 5 := by rintro ⟨_, _, _, _, _, _, _, _, _, _, _, _, _, rfl, _⟩; rfl
abbrev nm_law_never : List Str := ["world", "limits", "whole", "sums", "told", "some", "nodes", "total", "number", "most", "least"]
theorem rd_law_never (h : sp_law_never Z vs H Q E) : r_law_never Z (ends Q) (L2.start nm_law_never vs) H := by
  obtain ⟨u, v, x, y, tv, w, m, L, lims, G, Wh, sums, fnum, rfl, R, hx, hy, hz, hl, hb, hfault, htold, k⟩ := h
  have hx' := hx
  obtain ⟨wl, wx, rfl, hw, wa⟩ := hx'
  obtain ⟨p, rfl, hp⟩ := rep_row.mp hy
  have wlen := wa.len
  show r_law_never Z (ends Q) [some u, some v, some (.ref wl), some (.ref p), some tv, none, none, none, none, none, none] H
  unfold r_law_never ends
  walk_at "rd"
  refine ⟨RgOk.of_le (by omega) (by omega) (by omega) (by omega), fun q0 n0 => ?_⟩
  rw [rgV_nat]
  have s0 := same_new (o := .lst ((rangeR wx.length).map V.int)) n0
  have e0 : (upd H q0 (.lst ((rangeR wx.length).map V.int))) q0 = some (.lst ((rangeR wx.length).map V.int)) := upd_same
  show tCons _ _ _ (upd H q0 (.lst ((rangeR wx.length).map V.int))) _
  generalize upd H q0 (.lst ((rangeR wx.length).map V.int)) = H0 at s0 e0
  have hw0 := s0 _ _ hw
  walk_at "rd"
  refine ⟨.ref q0, _, rangeR wx.length, rfl, by rw [rangeR_len], rep_row_of e0, rangeR_asc, by rw [rangeR_len]; omega, fun sv H1 s1 rs => ?_⟩
  rw [rangeR_len, wlen] at rs
  obtain ⟨sl, sx, rfl, hsl, sa⟩ := rs
  have slen := sa.len
  have s01 := s0.trans s1
  walk_at "rd"
  refine forL (xs := sx) (fun i σ H' => ∃ e5 e6 e7 e8 e9 e10, σ = [some u, some v, some (.ref wl), some (.ref p), some tv, e5, e6, e7, e8, e9, e10] ∧ Same H1 H' ∧ ∀ j, j < i → fltB Wh G sums ((sets (rangeR Wh.length) Wh.length).getD j []) = false) ⟨_, _, _, _, _, _, rfl, .refl _, fun j hj => by omega⟩ (fun i σ H' _ ⟨_, _, _, _, _, _, _, s, _⟩ => SqL.of (s _ _ hsl)) ?_ ?_
  · rintro i x σ H' hi ⟨e5, e6, e7, e8, e9, e10, rfl, s, hno⟩
    have hi2 := (List.getElem?_eq_some_iff.mp hi).1
    obtain ⟨q, g1, g2⟩ := mat_at sa (i := i) (by omega)
    rw [g1] at hi
    cases hi
    obtain ⟨m1, m2, m3⟩ := sets_mem (getD_mem (m := sets (rangeR Wh.length) Wh.length) (i := i) (by omega))
    have hff : fltB Wh G sums ((sets (rangeR Wh.length) Wh.length).getD i []) = true → (sets (rangeR Wh.length) Wh.length).getD i [] = fnum := fun hf => by
      have := find_first (f := fltB Wh G sums) (S := sets (rangeR Wh.length) Wh.length) (i := i) (by omega) hno hf
      unfold faultOf at hfault
      rw [this] at hfault
      injection hfault
    have gq := s _ _ g2
    have nxt : fltB Wh G sums ((sets (rangeR Wh.length) Wh.length).getD i []) = false → ∀ j, j < i + 1 → fltB Wh G sums ((sets (rangeR Wh.length) Wh.length).getD j []) = false := fun h1 j hj => by
      by_cases c : j = i
      · rw [c, h1]
      · exact hno j (by omega)
    generalize (sets (rangeR Wh.length) Wh.length).getD i [] = num at gq m1 m2 m3 hff nxt
    have hnum : ∀ z ∈ num, 0 ≤ z ∧ z < (Wh.length : Int) := fun z hz => rangeR_mem.mp (m2 z hz)
    have sx1 := s01.trans s
    show tSeq _ _ _ [some u, some v, some (.ref wl), some (.ref p), some tv, some (.ref q), e6, e7, e8, e9, e10] H'
    walk_at "rd"
    refine ⟨.ref wl, .ref q, Wh, num, rfl, Rep.mono sx1 hx, rep_row_of gq, hnum, by omega, hb, fun qn H2 s2 n2 e2 => ?_⟩
    have gq2 := s2 _ _ gq
    have hp2 := (sx1.trans s2) _ _ hp
    walk_at "rd"
    refine lcLrT (xs := num.map V.int) (fun R h => by walk_at "rd"; exact h) (fun j => at0 sums (at0 num j).toNat) (SqL.of gq2) (by rw [lenV]; omega) (fun _ => rfl) (fun j x H3 hj s3 R k3 => ?_) ?_
    · obtain ⟨z, hz2, rfl⟩ := row_at hj
      obtain ⟨b1, b2⟩ := hnum z (List.mem_of_getElem? hz2)
      obtain rfl := at0_some hz2
      have hp3 := s3 _ _ hp2
      have h2 := at0_get (r := sums) (i := (at0 num j).toNat) (by omega)
      show tOp _ _ _ [some u, some v, some (.ref wl), some (.ref p), some tv, some (.ref q), some (.ref qn), e7, some (.int (at0 num j)), e9, e10] H3 R
      walk_at "rd"
      refine w_ixAt (at0 num j).toNat _ (by omega) hp3 (by rw [List.getElem?_map, h2]; rfl) ?_
      exact k3 _ (.refl _)
    rw [map_at0 num fun z => at0 sums z.toNat]
    intro q3 H3 s3 n3 e3
    walk_at "rd"
    refine w_sum e3 ?_
    have esum : (num.map fun z => at0 sums z.toNat).sum = sumAt sums num := rfl
    rw [esum]
    have s23 := s2.trans s3
    have R3 := R.mono (sx1.trans s23)
    walk_at "rd"
    refine ⟨u, v, .ref qn, 1, w, m, 1, L, lims, nodesOf Wh num, G, rfl, rfl, R3.fp, R3.fl, rep_row_of (s3 _ _ e2), R3.fw, .inr rfl, R3.f9, R3.fg, fun H4 s4 => ?_⟩
    have R4 := R3.mono s4
    walk_at "rd"
    refine ⟨u, v, .ref qn, 0, w, m, 0, L, lims, nodesOf Wh num, G, rfl, rfl, R4.fp, R4.fl, rep_row_of (s4 _ _ (s3 _ _ e2)), R4.fw, .inl rfl, R4.f9, R4.fg, fun H5 s5 => ?_⟩
    have em : brD (inS (nodesOf Wh num)) 1 G = mostF Wh G num := rfl
    have el : brD (inS (nodesOf Wh num)) 0 G = leastF Wh G num := rfl
    rw [em, el]
    have s25 := s23.trans (s4.trans s5)
    have gq5 := s25 _ _ gq
    have ht5 := htold.mono (sx1.trans s25)
    have yes : fltB Wh G sums num = true → ∀ (lim : Int), lim = (nevOf Wh G sums num).lim → ∀ t9, H5 t9 = none → rEqD Z.K tv (.ref t9) (upd H5 t9 (.tup [.str "never", .ref q, .int (sumAt sums num), .int lim])) Q := fun hf lim hlim t9 n9 => by
      have e := hff hf
      rw [← e] at ht5
      have s9 := same_new (o := .tup [V.str "never", .ref q, .int (sumAt sums num), .int lim]) n9
      obtain ⟨tt, tq, e1, f1, f2⟩ := ht5
      refine w_eqD (α := Nev) (a := nevOf Wh G sums num) (b := ⟨num, sumAt sums num, lim⟩) ⟨tt, tq, e1, s9 _ _ f1, s9 _ _ f2⟩ ⟨t9, q, rfl, upd_same, s9 _ _ gq5⟩ ?_
      rw [decide_eq_true (show nevOf Wh G sums num = ⟨num, sumAt sums num, lim⟩ from nev_eq.mpr ⟨rfl, rfl, hlim.symm⟩)]
      exact k _ ((sx1.trans s25).trans s9)
    walk_at "rd"
    refine w_ite (fun h => ?_) (fun h => ?_)
    · walk_at "rd"
      refine w_nite (fun h2 => ?_) (fun h2 => ?_)
      · have hf : fltB Wh G sums num = false := decide_eq_false (by omega)
        walk_at "rd"
        exact ⟨_, _, _, _, _, _, rfl, s.trans s25, nxt hf⟩
      · have hf : fltB Wh G sums num = true := decide_eq_true (.inl (by omega))
        walk_at "rd"
        refine w_ite (fun h3 => ?_) (fun h3 => by omega)
        walk_at "rd"
        refine ⟨small _ (by simp), fun t9 n9 => ?_⟩
        exact yes hf _ (by unfold nevOf; rw [if_pos (by omega)]) t9 n9
    · have hf : fltB Wh G sums num = true := decide_eq_true (.inr (by omega))
      walk_at "rd"
      refine w_ite (fun h3 => ?_) (fun h3 => ?_)
      · walk_at "rd"
        refine ⟨small _ (by simp), fun t9 n9 => ?_⟩
        exact yes hf _ (by unfold nevOf; rw [if_pos (by omega)]) t9 n9
      · walk_at "rd"
        refine ⟨small _ (by simp), fun t9 n9 => ?_⟩
        exact yes hf _ (by unfold nevOf; rw [if_neg (by omega)]) t9 n9
  · rintro σ H' ⟨e5, e6, e7, e8, e9, e10, rfl, s, hno⟩
    rw [slen] at hno
    have := find_none hno
    unfold faultOf at hfault
    rw [this] at hfault
    cases hfault
def sp_law_end_of (Z : Ctx) : Sp := fun vs H Q _ => ∃ u v x y g s, ∃ z : Int, ∃ w m side : Nat, ∃ L : List Ln, ∃ lims : List (Int × Int), ∃ G : List Edge, ∃ Wh : Mat, ∃ sums group num : Row, vs = [u, v, x, y, g, .int z, s] ∧ z = (side : Int) ∧ Wg Z H u v w m L lims G ∧ rep H x Wh ∧ rep H y sums ∧ rep H g group ∧ rep H s num ∧ sums.length = Wh.length ∧ (∀ b ∈ Wh, b.length ≤ 1000) ∧ group.length ≤ 1000 ∧ (side = 0 ∨ side = 1) ∧ num.length ≤ 100 ∧ (∀ z ∈ num, 0 ≤ z ∧ z < (Wh.length : Int)) ∧ ∀ H', Same H H' → Q (.int (boundF Wh G sums group side num)) H'
abbrev r_law_end_of (Z : Ctx) : TS := (tSeq (tAsg (tOp rCat (tVar 4) (tCall (sp_law_joined_blocks Z) [] E0 (tCons (tVar 2) (tCons (tVar 6) tNil)))) (gName 7)) (tRet (tOp rSubI (tCall (sp_law_brought Z) [] E0 (tCons (tVar 0) (tCons (tVar 1) (tCons (tVar 7) (tCons (tVar 5) tNil))))) (tCB (rSum Z.K) (tCons (tLc (iList Z.K (tVar 6)) (gName 8) tYes (tOp (rIxG Z.K) (tVar 3) (tVar 8)) [8]) tNil)))))
theorem ln_law_end_of : sp_law_end_of Z vs H Q E → vs.length = 7 := by rintro ⟨_, _, _, _, _, _, _, _, _, _, _, _, _, _, _, _, _, rfl, _⟩; rfl
abbrev nm_law_end_of : List Str := ["world", "limits", "whole", "sums", "group", "side", "some", "nodes", "number"]
theorem rd_law_end_of (h : sp_law_end_of Z vs H Q E) : r_law_end_of Z (ends Q) (L2.start nm_law_end_of vs) H := by
  obtain ⟨u, v, x, y, g, sv, _, w, m, side, L, lims, G, Wh, sums, group, num, rfl, rfl, R, hx, hy, hg, hs, hl, hb, hg1, hside, hn1, hnum, k⟩ := h
  obtain ⟨p, rfl, hp⟩ := rep_row.mp hy
  obtain ⟨gq, rfl, hgq⟩ := rep_row.mp hg
  obtain ⟨q, rfl, hq⟩ := rep_row.mp hs
  show r_law_end_of Z (ends Q) [some u, some v, some x, some (.ref p), some (.ref gq), some (.int (side : Int)), some (.ref q), none, none] H
  unfold r_law_end_of ends
  walk_at "rd"
  refine ⟨x, .ref q, Wh, num, rfl, hx, hs, hnum, hn1, hb, fun qn H1 s1 n1 e1 => ?_⟩
  have nl : (nodesOf Wh num).length ≤ 1000 * num.length := by
    have := nodes_len (num := num) hb num.length
    rwa [List.take_length] at this
  refine w_cat (s1 _ _ hgq) e1 (by rw [lenV, lenV]; omega) fun qm n2 => ?_
  have s2 := same_new (o := .lst (group.map V.int ++ (nodesOf Wh num).map V.int)) n2
  have e2 : (upd H1 qm (.lst (group.map V.int ++ (nodesOf Wh num).map V.int))) qm = some (.lst ((group ++ nodesOf Wh num).map V.int)) := by rw [List.map_append]; exact upd_same
  generalize upd H1 qm (.lst (group.map V.int ++ (nodesOf Wh num).map V.int)) = H2 at s2 e2
  have s02 := s1.trans s2
  have R2 := R.mono s02
  walk_at "rd"
  refine ⟨u, v, .ref qm, _, w, m, side, L, lims, group ++ nodesOf Wh num, G, rfl, rfl, R2.fp, R2.fl, rep_row_of e2, R2.fw, hside, R2.f9, R2.fg, fun H3 s3 => ?_⟩
  have s03 := s02.trans s3
  have hq3 := s03 _ _ hq
  have hp3 := s03 _ _ hp
  walk_at "rd"
  refine lcLrT (xs := num.map V.int) (fun R h => by walk_at "rd"; exact h) (fun j => at0 sums (at0 num j).toNat) (SqL.of hq3) (by rw [lenV]; omega) (fun _ => rfl) (fun j x' H4 hj s4 R4 k4 => ?_) ?_
  · obtain ⟨z, hz2, rfl⟩ := row_at hj
    obtain ⟨b1, b2⟩ := hnum z (List.mem_of_getElem? hz2)
    obtain rfl := at0_some hz2
    have hp4 := s4 _ _ hp3
    have h2 := at0_get (r := sums) (i := (at0 num j).toNat) (by omega)
    show tOp _ _ _ [some u, some v, some x, some (.ref p), some (.ref gq), some (.int (side : Int)), some (.ref q), some (.ref qm), some (.int (at0 num j))] H4 R4
    walk_at "rd"
    refine w_ixAt (at0 num j).toNat _ (by omega) hp4 (by rw [List.getElem?_map, h2]; rfl) ?_
    exact k4 _ (.refl _)
  rw [map_at0 num fun z => at0 sums z.toNat]
  intro q4 H4 s4 n4 e4
  walk_at "rd"
  refine w_sum e4 ?_
  walk_at "rd"
  exact k _ (s03.trans s4)
def optAt (H : Hp) (v : V) : Option Row → Prop
  | none => v = .non
  | some r => ∃ q, v = .ref q ∧ H q = some (.lst (r.map V.int))
def sp_law_ends_shown (Z : Ctx) : Sp := fun vs H Q _ => ∃ u v x y g, ∃ t q1 q2, ∃ w m : Nat, ∃ L : List Ln, ∃ lims : List (Int × Int), ∃ G : List Edge, ∃ Wh : Mat, ∃ sums group : Row, ∃ lo hi : Int, ∃ ls hs : Row, vs = [u, v, x, y, g, .ref t] ∧ Wg Z H u v w m L lims G ∧ rep H x Wh ∧ rep H y sums ∧ rep H g group ∧ Wh.length ≤ 5 ∧ sums.length = Wh.length ∧ (∀ b ∈ Wh, b.length ≤ 1000) ∧ 0 < group.length ∧ group.length ≤ 1000 ∧
  bestF 0 (boundF Wh G sums group 0) (sets (othersOf Wh (at0 group 0)) (othersOf Wh (at0 group 0)).length) = some (lo, ls) ∧ bestF 1 (boundF Wh G sums group 1) (sets (othersOf Wh (at0 group 0)) (othersOf Wh (at0 group 0)).length) = some (hi, hs) ∧
  H t = some (.tup [.str "from", .int lo, .int hi, .ref q1, .ref q2]) ∧ H q1 = some (.lst (ls.map V.int)) ∧ H q2 = some (.lst (hs.map V.int)) ∧ ∀ H', Same H H' → Q (.bl true) H'
abbrev r_law_ends_shown (Z : Ctx) : TS := (tSeq (tAsg (tLc (iRng1 (tCons (tCB (rLenG Z.K) (tCons (tVar 2) tNil)) tNil)) (gName 7) (tTest (tOp (rIn Z.K true) (tOp (rIxG Z.K) (tVar 4) (tC (.int 0))) (tOp (rIxG Z.K) (tVar 2) (tVar 7)))) (tVar 7) [7]) (gName 6)) (tSeq (tFor (iRng1 (tCons (tC (.int 2)) tNil)) (gName 8) (tSeq (tAsg (tC .non) (gName 9)) (tSeq (tFor (iList Z.K (tCall (sp_law_sets Z) [] E0 (tCons (tVar 6) (tCons (tCB (rLenG Z.K) (tCons (tVar 6) tNil)) tNil)))) (gName 10) (tIfS (tAnd (tTest (tOp rIsNo (tVar 9) (tC .non))) (tTest (tOp rEq (tCall (sp_law_end_of Z) [] E0 (tCons (tVar 0) (tCons (tVar 1) (tCons (tVar 2) (tCons (tVar 3) (tCons (tVar 4) (tCons (tVar 8) (tCons (tVar 10) tNil)))))))) (tOp (rIxGT Z.K) (tVar 5) (tOp rAddI (tC (.int 1)) (tVar 8)))))) (tAsg (tVar 10) (gName 9)) tNext)) (tIfS (tOr (tTest (tOp rIsNo (tVar 9) (tC .non))) (tTest (tOp (rNeD Z.K) (tOp (rIxGT Z.K) (tVar 5) (tOp rAddI (tC (.int 3)) (tVar 8))) (tVar 9)))) (tRet (tC (.bl false))) tNext)))) (tRet (tC (.bl true)))))
theorem ln_law_ends_shown : sp_law_ends_shown Z vs H Q E → vs.length = 6 := by rintro ⟨_, _, _, _, _, _, _, _, _, _, _, _, _, _, _, _, _, _, _, _, rfl, _⟩; rfl
abbrev nm_law_ends_shown : List Str := ["world", "limits", "whole", "sums", "group", "told", "others", "number", "side", "found", "some"]
theorem rd_law_ends_shown (h : sp_law_ends_shown Z vs H Q E) : r_law_ends_shown Z (ends Q) (L2.start nm_law_ends_shown vs) H := by
  obtain ⟨u, v, x, y, g, t, q1, q2, w, m, L, lims, G, Wh, sums, group, lo, hi, ls, hs, rfl, R, hx, hy, hg, hz, hl, hb, hg0, hg1, hlo, hhi, ht, hq1, hq2, k⟩ := h
  have hx' := hx
  obtain ⟨wl, wx, rfl, hw, wa⟩ := hx'
  obtain ⟨gq, rfl, hgq⟩ := rep_row.mp hg
  have wlen := wa.len
  have g00 := at0_get (r := group) (i := 0) hg0
  show r_law_ends_shown Z (ends Q) [some u, some v, some (.ref wl), some y, some (.ref gq), some (.ref t), none, none, none, none, none] H
  unfold r_law_ends_shown ends
  walk_at "rd"
  refine lcRF (β := Int) (n := wx.length) (fun R h => by walk_at "rd"; exact h) (dom H) (fun i => !decide (at0 group 0 ∈ Wh.getD i [])) (fun i => (i : Int)) (by omega) (fun _ h => h) (fun _ => rfl) (fun i H1 hi s1 R1 k1 => ?_) (fun i H1 M1 hi hf s1 _ _ R1 k1 => ?_) ?_
  · obtain ⟨q, g1, g2⟩ := mat_at wa (i := i) (by omega)
    have g2 := s1 _ _ g2
    have hw1 := s1 _ _ hw
    show tTest _ [some u, some v, some (.ref wl), some y, some (.ref gq), some (.ref t), none, some (.int (i : Int)), none, none, none] H1 R1
    walk_at "rd"
    refine w_ixAt 0 0 rfl (s1 _ _ hgq) (by rw [List.getElem?_map, g00]; rfl) ?_
    walk_at "rd"
    exact k1 _ (.refl _)
  · show tVar 7 [some u, some v, some (.ref wl), some y, some (.ref gq), some (.ref t), none, some (.int (i : Int)), none, none, none] H1 R1
    walk_at "rd"
    exact k1 _ _ (.refl _) rfl
  intro qo xo H1 s1 n1 e1 a1
  rw [all2_ints.mp a1, wlen] at e1
  have eo : H1 qo = some (.lst ((othersOf Wh (at0 group 0)).map V.int)) := e1
  have oasc : Asc (othersOf Wh (at0 group 0)) := filt_asc
  have olen := others_len (Wh := Wh) (g := at0 group 0)
  have omem : ∀ z ∈ othersOf Wh (at0 group 0), 0 ≤ z ∧ z < (Wh.length : Int) := fun z hz => others_mem hz
  generalize othersOf Wh (at0 group 0) = oth at eo oasc olen omem hlo hhi
  walk_at "rd"
  refine forR (n := 2) (fun i σ H' => ∃ e8 e9 e10, σ = [some u, some v, some (.ref wl), some y, some (.ref gq), some (.ref t), some (.ref qo), none, e8, e9, e10] ∧ Same H1 H') ⟨_, _, _, rfl, .refl _⟩ ?_ ?_
  · rintro i σ H' hi2 ⟨e8, e9, e10, rfl, s⟩
    have hside : i = 0 ∨ i = 1 := by omega
    obtain ⟨bi, si, qi, f1, f2, f3, f4⟩ : ∃ (bi : Int) (si : Row) (qi : Addr), bestF i (boundF Wh G sums group i) (sets oth oth.length) = some (bi, si) ∧ [V.str "from", .int lo, .int hi, .ref q1, .ref q2][1 + i]? = some (.int bi) ∧ [V.str "from", .int lo, .int hi, .ref q1, .ref q2][3 + i]? = some (.ref qi) ∧ H qi = some (.lst (si.map V.int)) := by
      rcases hside with rfl | rfl
      · exact ⟨lo, ls, q1, hlo, rfl, rfl, hq1⟩
      · exact ⟨hi, hs, q2, hhi, rfl, rfl, hq2⟩
    obtain ⟨_, _, _, bf⟩ := best_first _ bi si f1
    have s01 := s1.trans s
    have eo' := s _ _ eo
    show tSeq _ _ _ [some u, some v, some (.ref wl), some y, some (.ref gq), some (.ref t), some (.ref qo), none, some (.int (i : Int)), e9, e10] H'
    walk_at "rd"
    refine ⟨.ref qo, _, oth, rfl, by rw [lenV], rep_row_of eo', oasc, by omega, fun sv H2 s2 rs => ?_⟩
    obtain ⟨sl, sx, rfl, hsl, sa⟩ := rs
    have slen := sa.len
    have s02 := s01.trans s2
    walk_at "rd"
    refine forL (xs := sx) (fun j σ H'' => ∃ fv e10, σ = [some u, some v, some (.ref wl), some y, some (.ref gq), some (.ref t), some (.ref qo), none, some (.int (i : Int)), some fv, e10] ∧ Same H2 H'' ∧ optAt H'' fv (((sets oth oth.length).take j).find? fun r => decide (boundF Wh G sums group i r = bi))) ⟨_, _, rfl, .refl _, rfl⟩ (fun j σ H'' _ ⟨_, _, _, s', _⟩ => SqL.of (s' _ _ hsl)) ?_ ?_
    · rintro j x σ H'' hj ⟨fv, e10, rfl, s', hfv⟩
      have hj2 := (List.getElem?_eq_some_iff.mp hj).1
      obtain ⟨q, g1, g2⟩ := mat_at sa (i := j) (by omega)
      rw [g1] at hj
      cases hj
      obtain ⟨m1, m2, m3⟩ := sets_mem (getD_mem (m := sets oth oth.length) (i := j) (by omega))
      have gq' := s' _ _ g2
      have etake : ((sets oth oth.length).take (j + 1)).find? (fun r => decide (boundF Wh G sums group i r = bi)) = (((sets oth oth.length).take j).find? fun r => decide (boundF Wh G sums group i r = bi)).or ([(sets oth oth.length).getD j []].find? fun r => decide (boundF Wh G sums group i r = bi)) := by
        have : (sets oth oth.length)[j]? = some ((sets oth oth.length).getD j []) := by
          rw [List.getD_eq_getElem?_getD, List.getElem?_eq_getElem (by omega)]
          rfl
        rw [List.take_succ, this, List.find?_append]
        rfl
      rw [etake]
      generalize (sets oth oth.length).getD j [] = num at gq' m1 m2 m3
      generalize (((sets oth oth.length).take j).find? fun r => decide (boundF Wh G sums group i r = bi)) = fo at hfv
      have sx1 := s02.trans s'
      have R1 := R.mono sx1
      show tIfS _ _ _ _ [some u, some v, some (.ref wl), some y, some (.ref gq), some (.ref t), some (.ref qo), none, some (.int (i : Int)), some fv, some (.ref q)] H''
      cases fo with
      | none =>
        obtain rfl : fv = .non := hfv
        walk_at "rd"
        refine ⟨u, v, .ref wl, y, .ref gq, .ref q, _, w, m, i, L, lims, G, Wh, sums, group, num, rfl, rfl, R1, Rep.mono sx1 hx, Rep.mono sx1 hy, Rep.mono sx1 hg, rep_row_of gq', hl, hb, hg1, hside, by omega, fun z hz => omem z (m2 z hz), fun H3 s3 => ?_⟩
        have ht3 := (sx1.trans s3) _ _ ht
        walk_at "rd"
        refine w_ixTat (1 + i) _ (by omega) ht3 f2 ?_
        walk_at "rd"
        refine w_ite (fun h => ?_) (fun h => ?_)
        · walk_at "rd"
          refine ⟨_, _, rfl, s'.trans s3, ?_⟩
          rw [Option.none_or, List.find?_cons, decide_eq_true h]
          exact ⟨q, rfl, s3 _ _ gq'⟩
        · walk_at "rd"
          refine ⟨_, _, rfl, s'.trans s3, ?_⟩
          rw [Option.none_or, List.find?_cons, decide_eq_false h]
          exact rfl
      | some r =>
        obtain ⟨qr, rfl, hqr⟩ := hfv
        walk_at "rd"
        exact ⟨_, _, rfl, s', qr, rfl, hqr⟩
    · rintro σ H'' ⟨fv, e10, rfl, s', hfv⟩
      rw [slen, List.take_length, bf] at hfv
      obtain ⟨qr, rfl, hqr⟩ := hfv
      have sx1 := s02.trans s'
      have ht3 := sx1 _ _ ht
      walk_at "rd"
      refine w_ixTat (3 + i) _ (by omega) ht3 f3 ?_
      walk_at "rd"
      refine w_neD (α := Row) (a := si) (b := si) (rep_row_of (sx1 _ _ f4)) (rep_row_of hqr) ?_
      walk_at "rd"
      refine w_ite (fun h => absurd rfl h) (fun _ => ?_)
      walk_at "rd"
      exact ⟨_, _, _, rfl, s.trans (s2.trans s')⟩
  · rintro σ H' ⟨e8, e9, e10, rfl, s⟩
    walk_at "rd"
    exact k _ (s1.trans s)
end
end G
end
section
set_option Elab.async false
set_option linter.all false
set_option maxRecDepth 100000
namespace G
open PySem L2 PyProof.Rows
local macro_rules | `(tactic| walk_at "rd") => `(tactic| repeat (first
  | (with_reducible refine v_seq ?_)
  | (with_reducible refine v_asg ?_)
  | (with_reducible refine w_cons ?_)
  | (with_reducible refine w_nil ?_)
  | (with_reducible refine w_op ?_)
  | (with_reducible refine w_c ?_)
  | (with_reducible refine w_I0 ?_)
  | (with_reducible refine w_cb ?_)
  | (with_reducible refine w_call ?_)
  | (with_reducible refine v_ret ?_)
  | (with_reducible refine v_next ?_)
  | (with_reducible refine w_ixR (by assumption) (by assumption) ?_)
  | (with_reducible refine w_ix (by assumption) (by assumption) ?_)
  | (with_reducible refine w_test ?_)
  | (with_reducible refine w_tB ?_)
  | (with_reducible refine w_and ?_)
  | (with_reducible refine w_or ?_)
  | (with_reducible refine w_not ?_)
  | (with_reducible refine w_ifE ?_)
  | (with_reducible refine v_ifS ?_)
  | (with_reducible refine w_tt ?_)
  | (with_reducible refine w_ff ?_)
  | (with_reducible refine w_eqI ?_)
  | (with_reducible refine w_neI ?_)
  | (with_reducible refine w_U ?_)
  | (with_reducible refine w_un ?_)
  | (with_reducible refine w_len (by assumption) ?_)
  | (with_reducible refine w_abs ?_)
  | (with_reducible refine w_int ?_)
  | (with_reducible refine w_isN0 ?_)
  | (with_reducible refine w_isN1 (by assumption) ?_)
  | (with_reducible refine w_isN1 ne_in ?_)
  | (with_reducible refine w_isN1 ne_rn ?_)
  | (with_reducible refine w_notN0 ?_)
  | (with_reducible refine w_notN1 ne_in ?_)
  | (with_reducible refine w_notN1 ne_rn ?_)
  | (with_reducible refine v_lst ?_)
  | (with_reducible refine v_tup ?_)
  | (with_reducible refine w_notN1 (by assumption) ?_)
  | (with_reducible refine v_drop ?_)
  | (with_reducible refine w_bm ?_)
  | (with_reducible refine v_for ?_)
  | (with_reducible refine v_rng1 ?_)
  | (with_reducible refine v_rng2 ?_)
  | (with_reducible refine v_list ?_)
  | (with_reducible refine w_sub ?_)
  | (with_reducible refine v_ip ?_)
  | (with_reducible refine v_augS ?_)
  | (with_reducible refine v_retN ?_)
  | (with_reducible refine w_yes ?_)
  | (with_reducible refine tv_0 ?_)
  | (with_reducible refine nv_0 ?_)
  | (with_reducible refine av_0 ?_)
  | (with_reducible refine tv_1 ?_)
  | (with_reducible refine nv_1 ?_)
  | (with_reducible refine av_1 ?_)
  | (with_reducible refine tv_2 ?_)
  | (with_reducible refine nv_2 ?_)
  | (with_reducible refine av_2 ?_)
  | (with_reducible refine tv_3 ?_)
  | (with_reducible refine nv_3 ?_)
  | (with_reducible refine av_3 ?_)
  | (with_reducible refine tv_4 ?_)
  | (with_reducible refine nv_4 ?_)
  | (with_reducible refine av_4 ?_)
  | (with_reducible refine tv_5 ?_)
  | (with_reducible refine nv_5 ?_)
  | (with_reducible refine av_5 ?_)
  | (with_reducible refine tv_6 ?_)
  | (with_reducible refine nv_6 ?_)
  | (with_reducible refine av_6 ?_)
  | (with_reducible refine tv_7 ?_)
  | (with_reducible refine nv_7 ?_)
  | (with_reducible refine av_7 ?_)
  | (with_reducible refine tv_8 ?_)
  | (with_reducible refine nv_8 ?_)
  | (with_reducible refine av_8 ?_)
  | (with_reducible refine tv_9 ?_)
  | (with_reducible refine nv_9 ?_)
  | (with_reducible refine av_9 ?_)
  | (with_reducible refine tv_10 ?_)
  | (with_reducible refine nv_10 ?_)
  | (with_reducible refine av_10 ?_)
  | (with_reducible refine tv_11 ?_)
  | (with_reducible refine nv_11 ?_)
  | (with_reducible refine av_11 ?_)
  | (with_reducible refine tv_12 ?_)
  | (with_reducible refine nv_12 ?_)
  | (with_reducible refine av_12 ?_)
  | (with_reducible refine tv_13 ?_)
  | (with_reducible refine nv_13 ?_)
  | (with_reducible refine av_13 ?_)
  | (with_reducible refine tv_14 ?_)
  | (with_reducible refine nv_14 ?_)
  | (with_reducible refine av_14 ?_)
  | (with_reducible refine tv_15 ?_)
  | (with_reducible refine nv_15 ?_)
  | (with_reducible refine av_15 ?_)
  | (with_reducible refine tv_16 ?_)
  | (with_reducible refine nv_16 ?_)
  | (with_reducible refine av_16 ?_)
  | (with_reducible refine tv_17 ?_)
  | (with_reducible refine nv_17 ?_)
  | (with_reducible refine av_17 ?_)
  | (with_reducible refine tv_18 ?_)
  | (with_reducible refine nv_18 ?_)
  | (with_reducible refine av_18 ?_)
  | (with_reducible refine tv_19 ?_)
  | (with_reducible refine nv_19 ?_)
  | (with_reducible refine av_19 ?_)
  | (with_reducible refine tv_20 ?_)
  | (with_reducible refine nv_20 ?_)
  | (with_reducible refine av_20 ?_)
  | (with_reducible refine tv_21 ?_)
  | (with_reducible refine nv_21 ?_)
  | (with_reducible refine av_21 ?_)
  | (with_reducible refine tv_22 ?_)
  | (with_reducible refine nv_22 ?_)
  | (with_reducible refine av_22 ?_)
  | (with_reducible refine tv_23 ?_)
  | (with_reducible refine nv_23 ?_)
  | (with_reducible refine av_23 ?_)
  | (with_reducible refine tv_24 ?_)
  | (with_reducible refine nv_24 ?_)
  | (with_reducible refine av_24 ?_)
  | (with_reducible refine tv_25 ?_)
  | (with_reducible refine nv_25 ?_)
  | (with_reducible refine av_25 ?_)
  | (with_reducible refine ⟨_, rfl, ⟨_, SqL.of (by assumption)⟩, ?_⟩)
  | (with_reducible refine ⟨_, rfl, (by omega), (by omega), ?_⟩)
  | (with_reducible refine ⟨w_tyL (by assumption), ?_⟩)
  | (with_reducible refine w_isiII ?_)
  | (with_reducible refine w_isiIB ?_)
  | (with_reducible refine w_isiBB ?_)
  | (with_reducible refine w_isiBI ?_)
  | (with_reducible refine w_isiNL ?_)
  | (with_reducible refine w_isiLL (by assumption) ?_)
  | (with_reducible refine v_sl ?_)
  | (with_reducible refine w_nff ?_)
  | (with_reducible refine w_ntt ?_)
  | (with_reducible refine v_chain ?_)
  | (with_reducible refine v_andV ?_)
  | (with_reducible refine v_orV ?_)
  | (with_reducible refine v_chain3 ?_)
  | (with_reducible refine w_min2 ?_)
  | (with_reducible refine v_lstRg ?_)
  | (with_reducible refine w_in (by assumption) ?_)
  | (with_reducible refine w_nin (by assumption) ?_)
  | (with_reducible refine v_notV ?_)
  | (with_reducible refine v_noP ?_)
  | (with_reducible refine v_part ?_)
  | (with_reducible refine v_fld ?_)
  | (with_reducible refine v_sfld ?_)
  | (with_reducible refine ⟨_, (rfl : V.bl _ = V.bl _), ?_⟩)
  | (with_reducible refine ⟨_, (rfl : V.ref _ = V.ref _), ?_⟩)
  | (with_reducible refine ⟨_, (rfl : [V.int _] = [V.int _]), ?_⟩)
  | (with_reducible refine ⟨_, (rfl : V.int _ = V.int _), ?_⟩)
  | (with_reducible refine ⟨⟨_, SqL.of (by assumption)⟩, ?_⟩)
  | (with_reducible refine ⟨(by (first | omega | (rw [lenV]; omega)) : -(2 ^ 62) ≤ _), (by first | omega | (rw [lenV]; omega)), ?_⟩)
  | (with_reducible refine v_meth ?_)
  | (with_reducible refine v_make ?_)
  | (with_reducible refine w_neBB ?_)
  | (with_reducible refine w_eqBB ?_)
  | (with_reducible refine w_isiRI (by assumption) ?_)
  ))
section
variable {σ : L2.St} {H : Hp} {Q : VK} {K : PySem.W.Frag} {wi : TI} {te : TE} {tt : TT} {vs : List Nat} {j : Nat} {p l : Addr} {r : Row}
/-- some of a row, as draws say -/
theorem lcDT (hi : ∀ R : It → Hp → Prop, R (Itl K l) H → wi σ H R) (hp : PurseAt H p) (hl : H l = some (.lst (r.map V.int))) (hlp : l ≠ p) (hz : r.length ≤ 1000000) (hw : ∀ x, wipe ((wipe σ vs).set j (some x)) vs = wipe σ vs)
    (ht : ∀ (z : Int) H1, Chg p H H1 → PurseAt H1 p → ∀ R : Bool → Hp → Prop, (∀ b H2, Chg p H1 H2 → PurseAt H2 p → R b H2) → tt ((wipe σ vs).set j (some (.int z))) H1 R)
    (he : ∀ (z : Int) H1 (R : VK), R (.int z) H1 → te ((wipe σ vs).set j (some (.int z))) H1 R)
    (hd : ∀ D (r' : Row) H', Chg p H H' → PurseAt H' p → H D = none → H' D = some (.lst (r'.map V.int)) → r'.Sublist r → Q (.ref D) H') : tLc wi (gName j) tt te vs σ H Q := v_lc (hi _ fun D hD =>
  lc_list (xs := r.map V.int) (fun i H' => Chg p H H' ∧ PurseAt H' p ∧ ∃ r' : Row, H' D = some (.lst (r'.map V.int)) ∧ r'.Sublist (r.take i)) ⟨(Chg.refl H).mut hD, hp.upd (hp.ne (H0 := H) hD), [], upd_same, List.nil_sublist _⟩ (fun i H1 _ L => SqL.of (L.1 _ _ hlp hl)) (fun i x H1 hx ⟨c, pu, r', e, sb⟩ => by
    obtain ⟨z, hz2, rfl⟩ := row_at hx
    have hi2 := (List.getElem?_eq_some_iff.mp hz2).1
    have npD := hp.ne (H0 := H) hD
    have etk : r.take (i + 1) = r.take i ++ [z] := by rw [List.take_succ, hz2]; rfl
    refine ⟨hw _, ?_⟩
    refine ht z H1 c pu _ fun b H2 c2 p2 => ?_
    have e2 := c2 _ _ npD e
    cases b with
    | false => exact iteF ⟨c.trans c2, p2, r', e2, by rw [etk]; exact sb.trans (List.sublist_append_left ..)⟩
    | true =>
      refine iteT (he z H2 _ ⟨_, e2, ?_, (c.trans c2).mut hD, p2.upd npD, r' ++ [z], by rw [List.map_append]; exact upd_same, by rw [etk]; exact sb.append (List.Sublist.refl _)⟩)
      have := sb.length_le
      rw [List.length_take] at this
      rw [lenV]
      exact Nat.lt_of_lt_of_le (show r'.length < 1000000 by omega) (by decide)) fun H' ⟨c, pu, r', e, sb⟩ => by
    rw [lenV, List.take_length] at sb
    exact hd D r' H' c pu hD e sb)
end
theorem rest_head {w : Nat} {B : Mat} (h : ∀ x ∈ B.flatten, 1 ≤ x ∧ x ≤ (w : Int)) : restOf w B = 0 :: (((List.range w).filter fun (n : Nat) => !decide ((n : Int) + 1 ∈ B.flatten)).map fun (n : Nat) => (n : Int) + 1) := by
  unfold restOf
  rw [List.range_succ_eq_map, List.filter_cons, if_pos (by
    have : ¬ ((0 : Nat) : Int) ∈ B.flatten := fun z => by have := (h _ z).1; omega
    simp only [this, decide_false, Bool.not_false])]
  rw [List.map_cons, List.filter_map, List.map_map]
  rfl
theorem rest_not {w : Nat} {B : Mat} {z : Int} (h : z ∈ restOf w B) : z ∉ B.flatten := by
  obtain ⟨n, hn, rfl⟩ := List.mem_map.mp h
  have := (List.mem_filter.mp hn).2
  simpa using this
theorem rest_asc {w : Nat} {B : Mat} : Asc (restOf w B) := filt_asc
theorem bOf_blk {w n : Nat} {B : Mat} (h : Blk w n B) {i : Nat} (hi : i < B.length) {z : Int} (hz : z ∈ B.getD i []) : bOf B z = i := by
  refine bOf_at hi hz fun j hj hm => ?_
  have h1 := flat_take (B := B) (i := i) hi
  have h2 : ((B.take i).flatten ++ B.getD i []).Nodup := by
    rw [← h1]
    have := h.nd
    conv at this => rw [← List.take_append_drop (i + 1) B]
    rw [List.flatten_append] at this
    exact (List.nodup_append.mp this).1
  refine (List.nodup_append.mp h2).2.2 z ?_ z hz rfl
  refine List.mem_flatten.mpr ⟨B.getD j [], ?_, hm⟩
  refine List.mem_of_getElem? (i := j) ?_
  rw [List.getElem?_take, if_pos hj, List.getD_eq_getElem?_getD, List.getElem?_eq_getElem (by omega)]
  rfl
section
variable {Z : Ctx} {vs : List V} {H : Hp} {Q : VK} {E : XK}
theorem tail_post {t : TE} {σ : L2.St} (T : V → Hp → Prop) (hq : ∀ x H', T x H' → Q x H') (h : ∀ Q' : VK, (∀ x H', T x H' → Q' x H') → t σ H Q') : t σ H Q := h Q hq
theorem lcMade {wi : TI} {te : TE} {tt : TT} {vs : List Nat} {g : TG} {σ : L2.St} {K : PySem.W.Frag} {G : Addr → Hp → Prop} (hi : ∀ R : It → Hp → Prop, (∀ q H1, G q H1 → R (Itl K q) H1) → wi σ H R) (h : ∀ q H1, G q H1 → tLc (fun _ H' R => R (Itl K q) H') g tt te vs σ H1 Q) : tLc wi g tt te vs σ H Q := v_lc (hi _ fun q H1 g => h q H1 g)
theorem filt_row (r : Row) (g : Int → Bool) : (((List.range (r.map V.int).length).filter fun i => g (at0 r i)).map fun i => at0 r i) = r.filter g := by
  have e : r = (List.range r.length).map (fun i => at0 r i) := by
    have := map_at0 r fun x => x
    rw [lenV, List.map_id'] at this
    exact this.symm
  rw [lenV]
  conv => rhs; rw [e, List.filter_map]
  rfl
/-- what a group is taken from: a block of two or more, or the rest -/
def Src (w : Nat) (B : Mat) (f : Row) : Prop := (∃ i, i < B.length ∧ f = B.getD i [] ∧ 1 < f.length) ∨ (∃ r', restOf w B = 0 :: r' ∧ f = r' ++ [0] ∧ r' ≠ [])
theorem grp_of {w n : Nat} {B : Mat} {f books g : Row} (hB : Blk w n B) (src : Src w B f) (pm : books.Perm (f.filter fun z => decide (0 < z))) (srt : books.Pairwise (· ≤ ·)) (sb : g.Sublist books) (ne : g ≠ []) (hp : g.length < books.length ∨ books = (restOf w B).filter fun z => decide (0 < z)) : Grp w B g := by
  have gpos : 0 < g.length := List.length_pos_iff.mpr ne
  have mem : ∀ z ∈ g, z ∈ f ∧ 0 < z := fun z hz => by
    have := pm.mem_iff.mp (sb.subset hz)
    obtain ⟨h1, h2⟩ := List.mem_filter.mp this
    exact ⟨h1, of_decide_eq_true h2⟩
  have fnd : (f.filter fun z => decide (0 < z)).Nodup := by
    rcases src with ⟨i, hi, rfl, _⟩ | ⟨r', hr, rfl, _⟩
    · have h1 := flat_take (B := B) (i := i) hi
      have h2 : ((B.take i).flatten ++ B.getD i []).Nodup := by
        rw [← h1]
        have := hB.nd
        conv at this => rw [← List.take_append_drop (i + 1) B]
        rw [List.flatten_append] at this
        exact (List.nodup_append.mp this).1
      exact List.Pairwise.filter _ (List.nodup_append.mp h2).2.1
    · have := rest_asc (w := w) (B := B)
      rw [hr] at this
      have h2 := (List.pairwise_cons.mp this).2
      rw [List.filter_append]
      simp only [List.filter_cons, List.filter_nil, Int.lt_irrefl, decide_false, Bool.false_eq_true, if_false, List.append_nil]
      exact List.Pairwise.filter _ (List.Pairwise.imp (fun h e => by omega) h2)
  have asc : Asc books := by
    have nd : books.Nodup := pm.nodup_iff.mpr fnd
    exact (srt.and nd).imp fun h => by have := h.1; have := h.2; omega
  have hin : ∀ z ∈ g, 1 ≤ z ∧ z ≤ (w : Int) := fun z hz => by
    obtain ⟨h1, h2⟩ := mem z hz
    rcases src with ⟨i, hi, rfl, _⟩ | ⟨r', hr, rfl, _⟩
    · exact hB.inn z (List.mem_flatten.mpr ⟨_, getD_mem hi, h1⟩)
    · rcases List.mem_append.mp h1 with q | q
      · have : z ∈ restOf w B := by rw [hr]; exact List.mem_cons_of_mem _ q
        obtain ⟨m, hm, rfl⟩ := List.mem_map.mp this
        have := List.mem_range.mp (List.mem_filter.mp hm).1
        omega
      · rw [List.mem_singleton.mp q] at h2
        omega
  have g0 : at0 g 0 ∈ g := List.mem_of_getElem? (at0_get gpos)
  rcases src with ⟨i, hi, rfl, hl⟩ | ⟨r', hr, rfl, hr'⟩
  · have bo : ∀ z ∈ g, bOf B z = i := fun z hz => bOf_blk hB hi (mem z hz).1
    refine ⟨gpos, asc.sublist sb, hin, fun z hz => by rw [bo z hz, bo _ g0], fun _ => ?_⟩
    rw [bo _ g0]
    have bl : books.length = (B.getD i []).length := by
      rw [pm.length_eq, List.filter_eq_self.mpr fun z hz => decide_eq_true (by have := hB.inn z (List.mem_flatten.mpr ⟨_, getD_mem hi, hz⟩); omega)]
    rcases hp with hp | hp
    · omega
    · exfalso
      have h1 := sb.subset g0
      rw [hp] at h1
      exact rest_not (List.mem_filter.mp h1).1 (List.mem_flatten.mpr ⟨_, getD_mem hi, (mem _ g0).1⟩)
  · have bo : ∀ z ∈ g, bOf B z = B.length := fun z hz => bOf_flat.mpr (by
      obtain ⟨h1, h2⟩ := mem z hz
      rcases List.mem_append.mp h1 with q | q
      · exact rest_not (by rw [hr]; exact List.mem_cons_of_mem _ q)
      · rw [List.mem_singleton.mp q] at h2; omega)
    exact ⟨gpos, asc.sublist sb, hin, fun z hz => by rw [bo z hz, bo _ g0], fun h => by rw [bo _ g0] at h; omega⟩
def sp_law_group (Z : Ctx) : Sp := fun vs H Q _ => ∃ p v, ∃ w n : Nat, ∃ B : Mat, vs = [.ref p, v] ∧ PurseAt H p ∧ rep (off H fun a => a = p) v (wholeOf w B) ∧ Blk w n B ∧ n ≤ 100 ∧ w ≤ 100 ∧ ∀ D g H', Chg p H H' → PurseAt H' p → H D = none → H' D = some (.lst ((g : Row).map V.int)) → (g = [] ∨ Grp w B g) → Q (.ref D) H'
abbrev r_law_group (Z : Ctx) : TS := (tSeq (tAsg (tOp rCat (tLc (iList Z.K (tSl (rSlL Z.K) (tVar 1) tNoPart (tPart (tUn uNegI (tC (.int 1)))))) (gName 3) (tTest (tOp rGtI (tCB (rLenG Z.K) (tCons (tVar 3) tNil)) (tC (.int 1)))) (tVar 3) [3]) (tIf (tTest (tOp rGtI (tCB (rLenG Z.K) (tCons (tOp (rIxL Z.K) (tVar 1) (tUn uNegI (tC (.int 1)))) tNil)) (tC (.int 1)))) (tLst (tCons (tOp rCat (tSl (rSlL Z.K) (tOp (rIxL Z.K) (tVar 1) (tUn uNegI (tC (.int 1)))) (tPart (tC (.int 1))) tNoPart) (tLst (tCons (tC (.int 0)) tNil))) tNil)) (tLst tNil))) (gName 2)) (tSeq (tIfS (tTest (tOp (rEqD Z.K) (tVar 2) (tLst tNil))) (tRet (tLst tNil)) tNext) (tSeq (tAsg (tCB (rSortedI Z.K) (tCons (tLc (iList Z.K (tOp (rIxG Z.K) (tVar 2) (tCall (sp_law_draw Z) [] E0 (tCons (tVar 0) (tCons (tCB (rLenG Z.K) (tCons (tVar 2) tNil)) tNil))))) (gName 5) (tTest (tOp rGtI (tVar 5) (tC (.int 0)))) (tVar 5) [5]) tNil)) (gName 4)) (tSeq (tAsg (tIf (tTest (tOp (rEqD Z.K) (tVar 4) (tLc (iList Z.K (tOp (rIxL Z.K) (tVar 1) (tUn uNegI (tC (.int 1))))) (gName 7) (tTest (tOp rGtI (tVar 7) (tC (.int 0)))) (tVar 7) [7]))) (tC (.int 0)) (tC (.int 1))) (gName 6)) (tSeq (tAsg (tLc (iList Z.K (tVar 4)) (gName 5) (tTest (tOp rEq (tCall (sp_law_draw Z) [] E0 (tCons (tVar 0) (tCons (tC (.int 2)) tNil))) (tC (.int 0)))) (tVar 5) [5]) (gName 8)) (tSeq (tIfS (tTest (tOp (rEqD Z.K) (tVar 8) (tLst tNil))) (tAsg (tLst (tCons (tOp (rIxG Z.K) (tVar 4) (tCall (sp_law_draw Z) [] E0 (tCons (tVar 0) (tCons (tCB (rLenG Z.K) (tCons (tVar 4) tNil)) tNil)))) tNil)) (gName 8)) tNext) (tSeq (tIfS (tAnd (tTest (tOp rEq (tCB (rLenG Z.K) (tCons (tVar 8) tNil)) (tCB (rLenG Z.K) (tCons (tVar 4) tNil)))) (tTest (tOp rEq (tVar 6) (tC (.int 1))))) (tAsg (tSl (rSlL Z.K) (tVar 8) (tPart (tC (.int 1))) tNoPart) (gName 8)) tNext) (tRet (tVar 8)))))))))
theorem ln_law_group : sp_law_group Z vs H Q E → vs.length = 2 := by rintro ⟨_, _, _, _, _, rfl, _⟩; rfl
abbrev nm_law_group : List Str := ["purse", "whole", "fit", "block", "books", "book", "full", "one", "kept"]
theorem rd_law_group (h : sp_law_group Z vs H Q E) : r_law_group Z (ends Q) (L2.start nm_law_group vs) H := by
  obtain ⟨p, v, w, n, B, rfl, hp, ⟨l, xs, rfl, hl, ha⟩, hB, hn, hw, k⟩ := h
  have hlen := ha.len
  have wl := whole_len (w := w) (B := B)
  have hBl := hB.len
  have hl0 := off_same _ _ hl
  have nlp : l ≠ p := (off_some.mp hl).1
  have rh := rest_head hB.inn
  obtain ⟨bx, xr, rfl⟩ : ∃ bx xr, xs = bx ++ [xr] := by
    have : xs ≠ [] := fun q => by rw [q] at hlen; simp at hlen; omega
    exact ⟨xs.dropLast, xs.getLast this, (List.dropLast_concat_getLast this).symm⟩
  have hbx : bx.length = B.length := by simp at hlen; omega
  obtain ⟨y, hy1, hy2⟩ := ha.get (i := B.length) (y := restOf w B) (by unfold wholeOf; rw [List.getElem?_append_right (Nat.le_refl _)]; simp)
  have hyx : y = xr := by
    rw [List.getElem?_append_right (by omega)] at hy1
    simp [hbx] at hy1
    exact hy1.symm
  subst hyx
  obtain ⟨qr, rfl, hqr⟩ := rep_row.mp hy2
  have hqr0 := off_same _ _ hqr
  have nrp : qr ≠ p := (off_some.mp hqr).1
  have aB : All2 (rep (off H fun a => a = p)) bx B := by
    have := ha.take B.length
    unfold wholeOf at this
    rw [List.take_append_of_le_length (by omega), List.take_append_of_le_length (Nat.le_refl _), List.take_of_length_le (by omega), List.take_length] at this
    exact this
  generalize hrt : (((List.range w).filter fun (n : Nat) => !decide ((n : Int) + 1 ∈ B.flatten)).map fun (n : Nat) => (n : Int) + 1) = rt at rh
  have rasc : Asc (0 :: rt) := by rw [← rh]; exact rest_asc
  have rl := restOf_len (w := w) (B := B)
  rw [rh, List.length_cons] at rl
  show r_law_group Z (ends Q) [some (.ref p), some (.ref l), none, none, none, none, none, none, none] H
  unfold r_law_group ends
  refine v_seq (v_asg ?_)
  -- fit
  refine tail_post (fun x H' => ∃ q fx F, x = .ref q ∧ Same H H' ∧ H q = none ∧ H' q = some (.lst fx) ∧ All2 (rep (off H' fun a => a = p)) fx F ∧ (F : Mat).length ≤ n + 1 ∧ ∀ f ∈ F, Src w B f) ?_ ?_
  · rintro x H1 ⟨q, fx, F, rfl, s1, nq, eq, aF, lF, hF⟩
    have lfx := aF.len
    have p1 := hp.same s1
    have npq := hp.ne (H0 := H) nq
    walk_at "rd"
    refine ⟨by decide, fun l2 n2 => ?_⟩
    have s2 := same_new (o := .lst []) n2
    have e2 : (upd H1 l2 (.lst [])) l2 = some (.lst []) := upd_same
    generalize upd H1 l2 (.lst []) = H2 at s2 e2
    have eq2 := s2 _ _ eq
    have aF2 := all2_mono (off_mono (M := fun a => a = p) s2) aF
    have s02 := s1.trans s2
    have p2 := p1.same s2
    refine w_eqD (α := Mat) (a := F) (b := []) ⟨q, fx, rfl, eq2, all2_mono off_same aF2⟩ ⟨l2, [], rfl, e2, trivial⟩ ?_
    walk_at "rd"
    refine w_ite (fun h => ?_) (fun h => ?_)
    · walk_at "rd"
      refine ⟨by decide, fun l3 n3 => ?_⟩
      exact k l3 [] _ (.of (s02.trans (same_new n3))) (p2.same (same_new n3)) (s02.free n3) upd_same (.inl rfl)
    · have Fpos : 0 < F.length := List.length_pos_iff.mpr h
      walk_at "rd"
      refine lcMade (K := Z.K) (G := fun q3 H3 => ∃ f, Chg p H2 H3 ∧ PurseAt H3 p ∧ q3 ≠ p ∧ H3 q3 = some (.lst (f.map V.int)) ∧ Src w B f) (fun R hR => ?_) (fun q3 H3 ⟨f, c3, p3, np3, e3, src⟩ => ?_)
      · walk_at "rd"
        refine ⟨p, _, rfl, p2, by omega, fun z H3 c3 p3 l3 l4 => ?_⟩
        obtain ⟨t, rfl⟩ := Int.eq_ofNat_of_zero_le l3
        have aF3 := all2_mono (c3.off (M := fun a => a = p) rfl) aF2
        obtain ⟨qf, g1, g2⟩ := mat_at aF3 (i := t) (by omega)
        have eq3 := c3 _ _ npq eq2
        walk_at "rd"
        exact ⟨⟨_, SqL.of (off_same _ _ g2)⟩, hR qf H3 ⟨F.getD t [], c3, p3, (off_some.mp g2).1, off_same _ _ g2, hF _ (getD_mem (by omega))⟩⟩
      have fl : f.length ≤ 1000 := by
        rcases src with ⟨i, hi, rfl, _⟩ | ⟨r', hr, rfl, _⟩
        · have := hB.bl _ (getD_mem hi); omega
        · have := restOf_len (w := w) (B := B)
          rw [hr, List.length_cons] at this
          rw [List.length_append]
          simp
          omega
      refine lcLF (β := Int) (xs := f.map V.int) (fun R h => h) (dom H3) (fun i => decide (0 < at0 f i)) (fun i => at0 f i) (SqL.of e3) (by rw [lenV]; omega) (fun _ h => h) (fun _ => rfl) (fun i x H4 hi s4 R k4 => ?_) (fun i x H4 M4 hi hf s4 _ _ R k4 => ?_) ?_
      · obtain ⟨z, hz2, rfl⟩ := row_at hi
        obtain rfl := at0_some hz2
        show tTest _ [some (.ref p), some (.ref l), some (.ref q), none, none, some (.int (at0 f i)), none, none, none] H4 R
        walk_at "rd"
        exact k4 _ (.refl _)
      · obtain ⟨z, hz2, rfl⟩ := row_at hi
        obtain rfl := at0_some hz2
        show tVar 5 [some (.ref p), some (.ref l), some (.ref q), none, none, some (.int (at0 f i)), none, none, none] H4 R
        walk_at "rd"
        exact k4 _ _ (.refl _) rfl
      rw [filt_row f fun z => decide (0 < z)]
      intro q4 x4 H4 s4 n4 e4 a4
      rw [all2_ints.mp a4] at e4
      walk_at "rd"
      refine w_sorted e4 fun books qb pm srt nb => ?_
      have s5 := same_new (o := .lst (books.map V.int)) nb
      have e5 : (upd H4 qb (.lst (books.map V.int))) qb = some (.lst (books.map V.int)) := upd_same
      generalize upd H4 qb (.lst (books.map V.int)) = H5 at s5 e5
      have bl : books.length ≤ 1000 := by
        rw [pm.length_eq]
        exact Nat.le_trans (List.length_filter_le _ _) fl
      have bpos : 0 < books.length := by
        rw [pm.length_eq]
        refine List.length_pos_iff.mpr fun q => ?_
        rw [List.filter_eq_nil_iff] at q
        rcases src with ⟨i, hi, rfl, h1⟩ | ⟨r', hr, rfl, hr'⟩
        · obtain ⟨z, hz⟩ := List.exists_mem_of_length_pos (show 0 < (B.getD i []).length by omega)
          exact q z hz (decide_eq_true (by have := hB.inn z (List.mem_flatten.mpr ⟨_, getD_mem hi, hz⟩); omega))
        · obtain ⟨z, hz⟩ := List.exists_mem_of_length_pos (List.length_pos_iff.mpr hr')
          have := rest_asc (w := w) (B := B)
          rw [hr] at this
          exact q z (List.mem_append_left _ hz) (decide_eq_true ((List.pairwise_cons.mp this).1 z hz))
      have c05 : Chg p H H5 := (Chg.of s02).trans (c3.trans (.of (s4.trans s5)))
      have p5 := (p3.same s4).same s5
      have nbp : qb ≠ p := (p3.same s4).ne (H0 := H4) nb
      have nqb : H qb = none := s02.free (c3.fresh p3 (s4.free nb))
      refine nv_4 (v_seq (v_asg (tail_post (fun x H' => x = .int (if books = (restOf w B).filter (fun z => decide (0 < z)) then 0 else 1) ∧ Same H5 H') ?_ ?_)))
      rotate_left
      · intro Q' hq
        have hl5 := c05 _ _ nlp hl0
        have hqr5 := c05 _ _ nrp hqr0
        walk_at "rd"
        refine lcMade (K := Z.K) (G := fun q6 H6 => q6 = qr ∧ H6 = H5) (fun R hR => ?_) (fun q6 H6 ⟨hq6, hH6⟩ => ?_)
        · walk_at "rd"
          refine w_lastA (v := .ref qr) hl5 (by simp) ?_
          exact ⟨qr, rfl, ⟨_, SqL.of hqr5⟩, hR qr H5 ⟨rfl, rfl⟩⟩
        subst hq6
        subst hH6
        refine lcLF (β := Int) (xs := (restOf w B).map V.int) (fun R h => h) (dom H6) (fun i => decide (0 < at0 (restOf w B) i)) (fun i => at0 (restOf w B) i) (SqL.of hqr5) (by rw [lenV, rh, List.length_cons]; omega) (fun _ h => h) (fun _ => rfl) (fun i x H7 hi s7 R k7 => ?_) (fun i x H7 M7 hi hf s7 _ _ R k7 => ?_) ?_
        · obtain ⟨z, hz2, rfl⟩ := row_at hi
          obtain rfl := at0_some hz2
          show tTest _ [some (.ref p), some (.ref l), some (.ref q), none, some (.ref qb), none, none, some (.int (at0 (restOf w B) i)), none] H7 R
          walk_at "rd"
          exact k7 _ (.refl _)
        · obtain ⟨z, hz2, rfl⟩ := row_at hi
          obtain rfl := at0_some hz2
          show tVar 7 [some (.ref p), some (.ref l), some (.ref q), none, some (.ref qb), none, none, some (.int (at0 (restOf w B) i)), none] H7 R
          walk_at "rd"
          exact k7 _ _ (.refl _) rfl
        rw [filt_row (restOf w B) fun z => decide (0 < z)]
        intro q7 x7 H7 s7 n7 e7 a7
        rw [all2_ints.mp a7] at e7
        refine w_eqD (α := Row) (a := books) (rep_row_of (s7 _ _ e5)) (rep_row_of e7) ?_
        walk_at "rd"
        refine w_ite (fun h => ?_) (fun h => ?_)
        · walk_at "rd"
          rw [if_pos h] at hq
          exact hq _ _ ⟨rfl, s7⟩
        · walk_at "rd"
          rw [if_neg h] at hq
          exact hq _ _ ⟨rfl, s7⟩
      rintro x H6 ⟨rfl, s6⟩
      have e6 := s6 _ _ e5
      have p6 := p5.same s6
      have c06 := c05.trans (.of s6)
      generalize hfull : (if books = (restOf w B).filter (fun z => decide (0 < z)) then (0 : Int) else 1) = full
      walk_at "rd"
      refine lcDT (r := books) (p := p) (fun R h => by walk_at "rd"; exact h) p6 e6 nbp (by omega) (fun _ => rfl) (fun z H7 c7 p7 R k7 => ?_) (fun z H7 R k7 => ?_) (fun qk kp H7 c7 p7 n7 e7 sb => ?_)
      · show tTest _ [some (.ref p), some (.ref l), some (.ref q), none, some (.ref qb), some (.int z), some (.int full), none, none] H7 R
        walk_at "rd"
        refine ⟨p, _, rfl, p7, by decide, fun y H8 c8 p8 _ _ => ?_⟩
        walk_at "rd"
        exact k7 _ _ c8 p8
      · show tVar 5 [some (.ref p), some (.ref l), some (.ref q), none, some (.ref qb), some (.int z), some (.int full), none, none] H7 R
        walk_at "rd"
        exact k7
      have nqk : H qk = none := c06.fresh p6 n7
      refine nv_8 (v_seq (ifS_post (fun σ' H' => ∃ qk kp, σ' = [some (.ref p), some (.ref l), some (.ref q), none, some (.ref qb), none, some (.int full), none, some (.ref qk)] ∧ Chg p H H' ∧ PurseAt H' p ∧ H qk = none ∧ H' qk = some (.lst ((kp : Row).map V.int)) ∧ kp.Sublist books ∧ H' qb = some (.lst (books.map V.int))) ?_ ?_))
      rotate_left
      · intro nx' hq
        have e67 := c7 _ _ nbp e6
        walk_at "rd"
        refine ⟨by decide, fun l8 n8 => ?_⟩
        have s8 := same_new (o := .lst []) n8
        have e8 : (upd H7 l8 (.lst [])) l8 = some (.lst []) := upd_same
        generalize upd H7 l8 (.lst []) = H8 at s8 e8
        refine w_eqD (α := Row) (a := kp) (b := []) (rep_row_of (s8 _ _ e7)) (rep_row_of e8) ?_
        walk_at "rd"
        have c08 := (c06.trans c7).trans (.of s8)
        have p8 := p7.same s8
        have e68 := s8 _ _ e67
        refine w_ite (fun h => ?_) (fun h => ?_)
        · walk_at "rd"
          refine ⟨p, _, rfl, p8, by rw [lenV]; omega, fun z H9 c9 p9 l1 l2 => ?_⟩
          rw [lenV] at l2
          obtain ⟨t, rfl⟩ := Int.eq_ofNat_of_zero_le l1
          have gt := at0_get (r := books) (i := t) (by omega)
          have e69 := c9 _ _ nbp e68
          walk_at "rd"
          refine ⟨small _ (by simp), fun l10 n10 => ?_⟩
          have s10 := same_new (o := .lst [V.int (at0 books t)]) n10
          refine nv_8 (hq _ _ ⟨l10, [at0 books t], rfl, (c08.trans c9).trans (.of s10), p9.same s10, (c08.trans c9).fresh p9 n10, upd_same, ?_, s10 _ _ e69⟩)
          exact List.singleton_sublist.mpr (List.mem_of_getElem? gt)
        · walk_at "rd"
          exact hq _ _ ⟨qk, kp, rfl, c08, p8, nqk, s8 _ _ e7, sb, e68⟩
      rintro σ' H8 ⟨qk, kp, rfl, c8, p8, nk, e8, sb, eb8⟩
      have sbl := sb.length_le
      walk_at "rd"
      refine w_ite (fun h => ?_) (fun h => ?_)
      · rw [lenV, lenV] at h
        walk_at "rd"
        refine w_ite (fun hf => ?_) (fun hf => ?_)
        · walk_at "rd"
          refine w_sl e8 fun l9 n9 => ?_
          have s9 := same_new (o := .lst (cutV (kp.map V.int) (some 1) none)) n9
          walk_at "rd"
          have ecut : cutV (kp.map V.int) (some 1) none = (kp.drop 1).map V.int := by
            rw [show (some (1 : Int)) = some ((1 : Nat) : Int) from rfl, cut_from, List.map_drop]
          refine k l9 (kp.drop 1) _ (c8.trans (.of s9)) (p8.same s9) (c8.fresh p8 n9) (by rw [ecut]; exact upd_same) ?_
          by_cases hn : kp.drop 1 = []
          · exact .inl hn
          · exact .inr (grp_of hB src pm srt ((List.drop_sublist 1 kp).trans sb) hn (.inl (by rw [List.length_drop]; omega)))
        · walk_at "rd"
          refine k qk kp H8 c8 p8 nk e8 ?_
          by_cases hn : kp = []
          · exact .inl hn
          · refine .inr (grp_of hB src pm srt sb hn (.inr ?_))
            by_cases hb : books = (restOf w B).filter (fun z => decide (0 < z))
            · exact hb
            · rw [if_neg hb] at hfull
              exact absurd hfull.symm hf
      · rw [lenV, lenV] at h
        walk_at "rd"
        refine k qk kp H8 c8 p8 nk e8 ?_
        by_cases hn : kp = []
        · exact .inl hn
        · exact .inr (grp_of hB src pm srt sb hn (.inl (by omega)))
  · intro Q' hq
    have hl1 := hl0
    walk_at "rd"
    refine lcMade (K := Z.K) (G := fun q1 H1 => Same H H1 ∧ H1 q1 = some (.lst bx)) (fun R hR => ?_) (fun q1 H1 ⟨s1, e1⟩ => ?_)
    · walk_at "rd"
      refine w_sl hl0 fun l9 n9 => ?_
      rw [cut_last, List.dropLast_concat]
      exact ⟨l9, rfl, ⟨_, SqL.of upd_same⟩, hR l9 _ ⟨same_new n9, upd_same⟩⟩
    refine lcLF (β := Row) (xs := bx) (fun R h => h) (fun a => a = p) (fun i => decide (1 < (B.getD i []).length)) (fun i => B.getD i []) (SqL.of e1) (by omega) (fun a z => by rw [z]; exact (hp.same s1).dom) (fun _ => rfl) (fun i x H2 hi s2 R k2 => ?_) (fun i x H2 M2 hi hf s2 so _ R k2 => ?_) ?_
    · have hi2 := (List.getElem?_eq_some_iff.mp hi).1
      obtain ⟨qf, g1, g2⟩ := mat_at aB (i := i) (by omega)
      rw [g1] at hi
      cases hi
      have g3 := s2 _ _ (s1 _ _ (off_same _ _ g2))
      show tTest _ [some (.ref p), some (.ref l), none, some (.ref qf), none, none, none, none, none] H2 R
      walk_at "rd"
      have ed : decide ((((B.getD i []).map V.int).length : Int) > 1) = decide (1 < (B.getD i []).length) := by
        rw [lenV]
        exact decide_eq_decide.mpr (by omega)
      first
        | (rw [ed]; exact k2 _ (.refl _))
        | (rw [lenV]; rw [show decide ((1 : Int) < ((B.getD i []).length : Int)) = decide (1 < (B.getD i []).length) from decide_eq_decide.mpr (by omega)]; exact k2 _ (.refl _))
    · have hi2 := (List.getElem?_eq_some_iff.mp hi).1
      obtain ⟨qf, g1, g2⟩ := mat_at aB (i := i) (by omega)
      rw [g1] at hi
      cases hi
      show tVar 3 [some (.ref p), some (.ref l), none, some (.ref qf), none, none, none, none, none] H2 R
      walk_at "rd"
      exact k2 _ _ (.refl _) (rep_row_of (so _ _ ((off_mono s1) _ _ g2)))
    have hFm : ∀ f ∈ (((List.range bx.length).filter fun i => decide (1 < (B.getD i []).length)).map fun i => B.getD i []), Src w B f := fun f hf => by
      obtain ⟨i, hi, rfl⟩ := List.mem_map.mp hf
      obtain ⟨h1, h2⟩ := List.mem_filter.mp hi
      exact .inl ⟨i, by have := List.mem_range.mp h1; omega, rfl, of_decide_eq_true h2⟩
    have hFl : (((List.range bx.length).filter fun i => decide (1 < (B.getD i []).length)).map fun i => B.getD i []).length ≤ n := by
      rw [List.length_map]
      have := List.length_filter_le (fun i => decide (1 < (B.getD i []).length)) (List.range bx.length)
      rw [List.length_range] at this
      omega
    generalize (((List.range bx.length).filter fun i => decide (1 < (B.getD i []).length)).map fun i => B.getD i []) = F at hFm hFl
    intro q2 x2 H2 s2 n2 e2 a2
    have l2 := a2.len
    have s02 := s1.trans s2
    have hl2 := s02 _ _ hl0
    have hqr2 := s02 _ _ hqr0
    have p2 := hp.same s02
    have a2' := all2_mono (off_less (H := H2) (M := wth (fun a => a = p) q2) (N := fun a => a = p) fun a z => .inl z) a2
    walk_at "rd"
    refine w_lastA (v := .ref qr) hl2 (by simp) ?_
    walk_at "rd"
    refine w_ite (fun h => ?_) (fun h => ?_)
    · rw [lenV, rh, List.length_cons] at h
      walk_at "rd"
      refine w_lastA (v := .ref qr) hl2 (by simp) ?_
      walk_at "rd"
      refine w_sl hqr2 fun q3 n3 => ?_
      have ecut : cutV ((restOf w B).map V.int) (some 1) none = rt.map V.int := by
        rw [show (some (1 : Int)) = some ((1 : Nat) : Int) from rfl, cut_from, rh]
        rfl
      rw [ecut]
      have s3 := same_new (o := .lst (rt.map V.int)) n3
      have e3 : (upd H2 q3 (.lst (rt.map V.int))) q3 = some (.lst (rt.map V.int)) := upd_same
      generalize upd H2 q3 (.lst (rt.map V.int)) = H3 at s3 e3
      walk_at "rd"
      refine ⟨small _ (by simp), fun q4 n4 => ?_⟩
      have s4 := same_new (o := .lst [V.int 0]) n4
      have e4 : (upd H3 q4 (.lst [V.int 0])) q4 = some (.lst [V.int 0]) := upd_same
      generalize upd H3 q4 (.lst [V.int 0]) = H4 at s4 e4
      refine w_cat (s4 _ _ e3) e4 (by rw [lenV]; simp; omega) fun q5 n5 => ?_
      have s5 := same_new (o := .lst (rt.map V.int ++ [V.int 0])) n5
      have e5 : (upd H4 q5 (.lst (rt.map V.int ++ [V.int 0]))) q5 = some (.lst ((rt ++ [0]).map V.int)) := by rw [List.map_append]; exact upd_same
      generalize upd H4 q5 (.lst (rt.map V.int ++ [V.int 0])) = H5 at s5 e5
      have s25 := s3.trans (s4.trans s5)
      have nq5 : q5 ≠ p := (p2.same (s3.trans s4)).ne (H0 := H4) n5
      walk_at "rd"
      refine ⟨small _ (by simp), fun q6 n6 => ?_⟩
      have s6 := same_new (o := .lst [V.ref q5]) n6
      have e6 : (upd H5 q6 (.lst [V.ref q5])) q6 = some (.lst [V.ref q5]) := upd_same
      generalize upd H5 q6 (.lst [V.ref q5]) = H6 at s6 e6
      have s26 := s25.trans s6
      refine w_cat (s26 _ _ e2) e6 (by simp; omega) fun q7 n7 => ?_
      have s7 := same_new (o := .lst (x2 ++ [V.ref q5])) n7
      refine hq _ _ ⟨q7, _, F ++ [rt ++ [0]], rfl, s02.trans (s26.trans s7), s02.free (s26.free n7), upd_same, (all2_mono (off_mono (s26.trans s7)) a2').snoc (rep_row_of (off_in nq5 ((s6.trans s7) _ _ e5))), by rw [List.length_append]; simp; omega, fun f hf => ?_⟩
      rcases List.mem_append.mp hf with z | z
      · exact hFm f z
      · rw [List.mem_singleton.mp z]
        exact .inr ⟨rt, rh, rfl, fun q => by rw [q] at h; simp at h⟩
    · walk_at "rd"
      refine ⟨by decide, fun q6 n6 => ?_⟩
      have s6 := same_new (o := .lst []) n6
      have e6 : (upd H2 q6 (.lst [])) q6 = some (.lst []) := upd_same
      generalize upd H2 q6 (.lst []) = H6 at s6 e6
      refine w_cat (s6 _ _ e2) e6 (by simp; omega) fun q7 n7 => ?_
      have s7 := same_new (o := .lst (x2 ++ [])) n7
      refine hq _ _ ⟨q7, _, F, rfl, s02.trans (s6.trans s7), s02.free (s6.free n7), upd_same, ?_, by omega, hFm⟩
      rw [List.append_nil]
      rw [List.append_nil] at s7
      exact all2_mono (off_mono (s6.trans s7)) a2'
end
end G
end
section
set_option Elab.async false
set_option linter.all false
set_option maxRecDepth 100000
namespace G
open PySem L2 PyProof.Rows
local macro_rules | `(tactic| walk_at "rd") => `(tactic| repeat (first
  | (with_reducible refine v_seq ?_)
  | (with_reducible refine v_asg ?_)
  | (with_reducible refine w_cons ?_)
  | (with_reducible refine w_nil ?_)
  | (with_reducible refine w_op ?_)
  | (with_reducible refine w_c ?_)
  | (with_reducible refine w_I0 ?_)
  | (with_reducible refine w_cb ?_)
  | (with_reducible refine w_call ?_)
  | (with_reducible refine v_ret ?_)
  | (with_reducible refine v_next ?_)
  | (with_reducible refine w_ixR (by assumption) (by assumption) ?_)
  | (with_reducible refine w_ix (by assumption) (by assumption) ?_)
  | (with_reducible refine w_test ?_)
  | (with_reducible refine w_tB ?_)
  | (with_reducible refine w_and ?_)
  | (with_reducible refine w_or ?_)
  | (with_reducible refine w_not ?_)
  | (with_reducible refine w_ifE ?_)
  | (with_reducible refine v_ifS ?_)
  | (with_reducible refine w_tt ?_)
  | (with_reducible refine w_ff ?_)
  | (with_reducible refine w_eqI ?_)
  | (with_reducible refine w_neI ?_)
  | (with_reducible refine w_U ?_)
  | (with_reducible refine w_un ?_)
  | (with_reducible refine w_len (by assumption) ?_)
  | (with_reducible refine w_abs ?_)
  | (with_reducible refine w_int ?_)
  | (with_reducible refine w_isN0 ?_)
  | (with_reducible refine w_isN1 (by assumption) ?_)
  | (with_reducible refine w_isN1 ne_in ?_)
  | (with_reducible refine w_isN1 ne_rn ?_)
  | (with_reducible refine w_notN0 ?_)
  | (with_reducible refine w_notN1 ne_in ?_)
  | (with_reducible refine w_notN1 ne_rn ?_)
  | (with_reducible refine v_lst ?_)
  | (with_reducible refine v_tup ?_)
  | (with_reducible refine w_notN1 (by assumption) ?_)
  | (with_reducible refine v_drop ?_)
  | (with_reducible refine w_bm ?_)
  | (with_reducible refine v_for ?_)
  | (with_reducible refine v_rng1 ?_)
  | (with_reducible refine v_rng2 ?_)
  | (with_reducible refine v_list ?_)
  | (with_reducible refine w_sub ?_)
  | (with_reducible refine v_ip ?_)
  | (with_reducible refine v_augS ?_)
  | (with_reducible refine v_retN ?_)
  | (with_reducible refine w_yes ?_)
  | (with_reducible refine tv_0 ?_)
  | (with_reducible refine nv_0 ?_)
  | (with_reducible refine av_0 ?_)
  | (with_reducible refine tv_1 ?_)
  | (with_reducible refine nv_1 ?_)
  | (with_reducible refine av_1 ?_)
  | (with_reducible refine tv_2 ?_)
  | (with_reducible refine nv_2 ?_)
  | (with_reducible refine av_2 ?_)
  | (with_reducible refine tv_3 ?_)
  | (with_reducible refine nv_3 ?_)
  | (with_reducible refine av_3 ?_)
  | (with_reducible refine tv_4 ?_)
  | (with_reducible refine nv_4 ?_)
  | (with_reducible refine av_4 ?_)
  | (with_reducible refine tv_5 ?_)
  | (with_reducible refine nv_5 ?_)
  | (with_reducible refine av_5 ?_)
  | (with_reducible refine tv_6 ?_)
  | (with_reducible refine nv_6 ?_)
  | (with_reducible refine av_6 ?_)
  | (with_reducible refine tv_7 ?_)
  | (with_reducible refine nv_7 ?_)
  | (with_reducible refine av_7 ?_)
  | (with_reducible refine tv_8 ?_)
  | (with_reducible refine nv_8 ?_)
  | (with_reducible refine av_8 ?_)
  | (with_reducible refine tv_9 ?_)
  | (with_reducible refine nv_9 ?_)
  | (with_reducible refine av_9 ?_)
  | (with_reducible refine tv_10 ?_)
  | (with_reducible refine nv_10 ?_)
  | (with_reducible refine av_10 ?_)
  | (with_reducible refine tv_11 ?_)
  | (with_reducible refine nv_11 ?_)
  | (with_reducible refine av_11 ?_)
  | (with_reducible refine tv_12 ?_)
  | (with_reducible refine nv_12 ?_)
  | (with_reducible refine av_12 ?_)
  | (with_reducible refine tv_13 ?_)
  | (with_reducible refine nv_13 ?_)
  | (with_reducible refine av_13 ?_)
  | (with_reducible refine tv_14 ?_)
  | (with_reducible refine nv_14 ?_)
  | (with_reducible refine av_14 ?_)
  | (with_reducible refine tv_15 ?_)
  | (with_reducible refine nv_15 ?_)
  | (with_reducible refine av_15 ?_)
  | (with_reducible refine tv_16 ?_)
  | (with_reducible refine nv_16 ?_)
  | (with_reducible refine av_16 ?_)
  | (with_reducible refine tv_17 ?_)
  | (with_reducible refine nv_17 ?_)
  | (with_reducible refine av_17 ?_)
  | (with_reducible refine tv_18 ?_)
  | (with_reducible refine nv_18 ?_)
  | (with_reducible refine av_18 ?_)
  | (with_reducible refine tv_19 ?_)
  | (with_reducible refine nv_19 ?_)
  | (with_reducible refine av_19 ?_)
  | (with_reducible refine tv_20 ?_)
  | (with_reducible refine nv_20 ?_)
  | (with_reducible refine av_20 ?_)
  | (with_reducible refine tv_21 ?_)
  | (with_reducible refine nv_21 ?_)
  | (with_reducible refine av_21 ?_)
  | (with_reducible refine tv_22 ?_)
  | (with_reducible refine nv_22 ?_)
  | (with_reducible refine av_22 ?_)
  | (with_reducible refine tv_23 ?_)
  | (with_reducible refine nv_23 ?_)
  | (with_reducible refine av_23 ?_)
  | (with_reducible refine tv_24 ?_)
  | (with_reducible refine nv_24 ?_)
  | (with_reducible refine av_24 ?_)
  | (with_reducible refine tv_25 ?_)
  | (with_reducible refine nv_25 ?_)
  | (with_reducible refine av_25 ?_)
  | (with_reducible refine ⟨_, rfl, ⟨_, SqL.of (by assumption)⟩, ?_⟩)
  | (with_reducible refine ⟨_, rfl, (by omega), (by omega), ?_⟩)
  | (with_reducible refine ⟨w_tyL (by assumption), ?_⟩)
  | (with_reducible refine w_isiII ?_)
  | (with_reducible refine w_isiIB ?_)
  | (with_reducible refine w_isiBB ?_)
  | (with_reducible refine w_isiBI ?_)
  | (with_reducible refine w_isiNL ?_)
  | (with_reducible refine w_isiLL (by assumption) ?_)
  | (with_reducible refine v_sl ?_)
  | (with_reducible refine w_nff ?_)
  | (with_reducible refine w_ntt ?_)
  | (with_reducible refine v_chain ?_)
  | (with_reducible refine v_andV ?_)
  | (with_reducible refine v_orV ?_)
  | (with_reducible refine v_chain3 ?_)
  | (with_reducible refine w_min2 ?_)
  | (with_reducible refine v_lstRg ?_)
  | (with_reducible refine w_in (by assumption) ?_)
  | (with_reducible refine w_nin (by assumption) ?_)
  | (with_reducible refine v_notV ?_)
  | (with_reducible refine v_noP ?_)
  | (with_reducible refine v_part ?_)
  | (with_reducible refine v_fld ?_)
  | (with_reducible refine v_sfld ?_)
  | (with_reducible refine ⟨_, (rfl : V.bl _ = V.bl _), ?_⟩)
  | (with_reducible refine ⟨_, (rfl : V.ref _ = V.ref _), ?_⟩)
  | (with_reducible refine ⟨_, (rfl : [V.int _] = [V.int _]), ?_⟩)
  | (with_reducible refine ⟨_, (rfl : V.int _ = V.int _), ?_⟩)
  | (with_reducible refine ⟨⟨_, SqL.of (by assumption)⟩, ?_⟩)
  | (with_reducible refine ⟨(by (first | omega | (rw [lenV]; omega)) : -(2 ^ 62) ≤ _), (by first | omega | (rw [lenV]; omega)), ?_⟩)
  | (with_reducible refine v_meth ?_)
  | (with_reducible refine v_make ?_)
  | (with_reducible refine w_neBB ?_)
  | (with_reducible refine w_eqBB ?_)
  | (with_reducible refine w_isiRI (by assumption) ?_)
  ))
theorem led_bd {w : Nat} {L : List Ln} {amts : Row} (ha : ∀ z ∈ amts, -1000 ≤ z ∧ z ≤ 1000) (hL : ∀ x ∈ L, x.sh.length = w ∧ ∀ y ∈ x.sh, -1 ≤ y ∧ y ≤ 1) : ∀ n, n ≤ L.length → ∀ j, (at0 (ledF w L amts n) j).natAbs ≤ n * 1000
  | 0, _, j => by
    show (at0 (zr w) j).natAbs ≤ _
    rw [at0_zr]
    exact Nat.zero_le _
  | n + 1, hn, j => by
    have ih := led_bd ha hL n (by omega) j
    have g := List.getElem?_eq_getElem (l := L) (i := n) (by omega)
    have e : L.getD n ⟨[], 0, 0⟩ = L[n] := by rw [List.getD_eq_getElem?_getD, g]; rfl
    obtain ⟨h1, h2⟩ := hL _ (List.getElem_mem (by omega : n < L.length))
    unfold ledF
    rw [e, at0_less (by rw [ledF_length, h1])]
    have b1 : (at0 L[n].sh j).natAbs ≤ 1 := by
      by_cases hj : j < L[n].sh.length
      · have := h2 _ (List.mem_of_getElem? (at0_get hj)); omega
      · rw [at0_out (by omega)]; decide
    have b2 : (at0 amts n).natAbs ≤ 1000 := by
      by_cases hj : n < amts.length
      · have := ha _ (List.mem_of_getElem? (at0_get hj)); omega
      · rw [at0_out (by omega)]; decide
    have b3 : (-(at0 amts n) * at0 L[n].sh j).natAbs ≤ 1000 * 1 := by
      rw [Int.natAbs_mul, Int.natAbs_neg]
      exact Nat.mul_le_mul b2 b1
    omega
theorem tot_bd {row : Row} {c : Nat} (h : ∀ j, (at0 row j).natAbs ≤ c) : ∀ books : Row, (Tot row books).natAbs ≤ books.length * c
  | [] => by simp [Tot]
  | b :: books => by
    have ih := tot_bd h books
    have := h (b.toNat - 1)
    have e : Tot row (b :: books) = at0 row (b.toNat - 1) + Tot row books := by simp [Tot]
    rw [e, List.length_cons, Nat.succ_mul]
    omega
section
variable {Z : Ctx} {vs : List V} {H : Hp} {Q : VK} {E : XK}
def sp_law_asked_totals (Z : Ctx) : Sp := fun vs H Q _ => ∃ p v x y, ∃ w m n : Nat, ∃ L : List Ln, ∃ B S : Mat, vs = [.ref p, v, x, y] ∧ PurseAt H p ∧ WorldAt (off H fun a => a = p) v w m L ∧ rep (off H fun a => a = p) x B ∧ rep (off H fun a => a = p) y S ∧ Blk w n B ∧ n ≤ 10 ∧ w ≤ 100 ∧ L.length ≤ 4 ∧ (∀ x ∈ L, x.sh.length = w ∧ ∀ y ∈ x.sh, -1 ≤ y ∧ y ≤ 1) ∧ 0 < S.length ∧ (∀ r ∈ S, r.length = L.length ∧ ∀ z ∈ r, -1000 ≤ z ∧ z ≤ 1000) ∧
  ∀ D (tots : Row) H', Chg p H H' → PurseAt H' p → H D = none → H' D = some (.lst (tots.map V.int)) → tots.length = B.length → (∀ z ∈ tots, -1000000 ≤ z ∧ z ≤ 1000000) → Q (.ref D) H'
abbrev r_law_asked_totals (Z : Ctx) : TS := (tSeq (tAsg (tCall (sp_law_ledger Z) [] E0 (tCons (tVar 1) (tCons (tOp (rIxG Z.K) (tVar 3) (tCall (sp_law_draw Z) [] E0 (tCons (tVar 0) (tCons (tCB (rLenG Z.K) (tCons (tVar 3) tNil)) tNil)))) tNil))) (gName 4)) (tSeq (tAsg (tLc (iList Z.K (tVar 2)) (gName 6) tYes (tCall (sp_law_total Z) [] E0 (tCons (tVar 4) (tCons (tVar 6) tNil))) [6]) (gName 5)) (tSeq (tIfS (tAnd (tTest (tOp (rNeD Z.K) (tVar 5) (tLst tNil))) (tTest (tOp rEq (tCall (sp_law_draw Z) [] E0 (tCons (tVar 0) (tCons (tC (.int 2)) tNil))) (tC (.int 0))))) (tSeq (tAsg (tCall (sp_law_draw Z) [] E0 (tCons (tVar 0) (tCons (tCB (rLenG Z.K) (tCons (tVar 5) tNil)) tNil))) (gName 7)) (tAsg (tOp rSubI (tOp rAddI (tOp (rIxG Z.K) (tVar 5) (tVar 7)) (tC (.int 1))) (tOp rMulI (tC (.int 2)) (tCall (sp_law_draw Z) [] E0 (tCons (tVar 0) (tCons (tC (.int 2)) tNil))))) (gSub (tVar 5) (tVar 7) rSetG))) tNext) (tRet (tVar 5)))))
theorem ln_law_asked_totals : sp_law_asked_totals Z vs H Q E → vs.length = 4 := by rintro ⟨_, _, _, _, _, _, _, _, _, _, rfl, _⟩; rfl
abbrev nm_law_asked_totals : List Str := ["purse", "world", "blocks", "sums", "row", "totals", "block", "at"]
theorem rd_law_asked_totals (h : sp_law_asked_totals Z vs H Q E) : r_law_asked_totals Z (ends Q) (L2.start nm_law_asked_totals vs) H := by
  obtain ⟨p, v, x, y, w, m, n, L, B, S, rfl, hp, hv, hx, hy, hB, hn, hw, hL4, hL, hS, hSb, k⟩ := h
  obtain ⟨bl, bx, rfl, hbl, ba⟩ := hx
  obtain ⟨sl, sx, rfl, hsl, sa⟩ := hy
  have blen := ba.len
  have slen := sa.len
  have hBl := hB.len
  have nsp : sl ≠ p := (off_some.mp hsl).1
  have nbp : bl ≠ p := (off_some.mp hbl).1
  have hsl0 := off_same _ _ hsl
  show r_law_asked_totals Z (ends Q) [some (.ref p), some v, some (.ref bl), some (.ref sl), none, none, none, none] H
  unfold r_law_asked_totals ends
  walk_at "rd"
  refine ⟨p, _, rfl, hp, by omega, fun z H1 c1 p1 l1 l2 => ?_⟩
  obtain ⟨t, rfl⟩ := Int.eq_ofNat_of_zero_le l1
  have hsl1 := c1 _ _ nsp hsl0
  have so1 : Same (off H fun a => a = p) (off H1 fun a => a = p) := c1.off rfl
  obtain ⟨q, g1, g2⟩ := mat_at (all2_mono so1 sa) (i := t) (by omega)
  have g3 := off_same _ _ g2
  obtain ⟨r1, r2⟩ := hSb _ (getD_mem (m := S) (i := t) (by omega))
  generalize S.getD t [] = amts at g3 r1 r2
  walk_at "rd"
  refine ⟨v, .ref q, w, m, L, amts, rfl, (hv.mono so1).mono off_same, rep_row_of g3, r1, by omega, by omega, hL, fun qr H2 s2 n2 e2 => ?_⟩
  have lb := led_bd (w := w) (amts := amts) r2 hL L.length (Nat.le_refl _)
  have ll := ledF_length (w := w) (L := L) (amts := amts) L.length
  generalize ledF w L amts L.length = row at e2 lb ll
  have hbl2 := s2 _ _ (c1 _ _ nbp (off_same _ _ hbl))
  have ba2 := all2_mono ((so1.trans off_same).trans s2) ba
  have p2 := p1.same s2
  walk_at "rd"
  refine lcLrT (xs := bx) (fun R h => by walk_at "rd"; exact h) (fun i => Tot row (B.getD i [])) (SqL.of hbl2) (by omega) (fun _ => rfl) (fun i x H3 hi s3 R k3 => ?_) ?_
  · have hi2 := (List.getElem?_eq_some_iff.mp hi).1
    obtain ⟨qb, f1, f2⟩ := mat_at ba2 (i := i) (by omega)
    rw [f1] at hi
    cases hi
    have hb2 := hB.bl _ (getD_mem (i := i) (m := B) (by omega))
    show tCall _ _ _ _ [some (.ref p), some v, some (.ref bl), some (.ref sl), some (.ref qr), none, some (.ref qb), none] H3 R
    walk_at "rd"
    exact ⟨.ref qr, .ref qb, row, B.getD i [], rfl, rep_row_of (s3 _ _ e2), rep_row_of (s3 _ _ f2), by omega, fun b hb => by have := hB.inn b (List.mem_flatten.mpr ⟨_, getD_mem (i := i) (m := B) (by omega), hb⟩); omega, fun H4 s4 => k3 _ s4⟩
  intro qt H3 s3 n3 e3
  have tl : ((List.range bx.length).map fun i => Tot row (B.getD i [])).length = B.length := by simp [blen]
  have tb : ∀ z ∈ ((List.range bx.length).map fun i => Tot row (B.getD i [])), -500000 ≤ z ∧ z ≤ 500000 := fun z hz => by
    obtain ⟨i, hi, rfl⟩ := List.mem_map.mp hz
    have hi := List.mem_range.mp hi
    have h1 := tot_bd lb (B.getD i [])
    have h2 := hB.bl _ (getD_mem (i := i) (m := B) (by omega))
    have h3 : (B.getD i []).length * (L.length * 1000) ≤ 101 * 4000 := Nat.mul_le_mul (by omega) (by omega)
    omega
  generalize ((List.range bx.length).map fun i => Tot row (B.getD i [])) = tots at e3 tl tb
  have nqt : H qt = none := c1.fresh p1 (s2.free n3)
  have p3 := p2.same s3
  have ntp : qt ≠ p := p2.ne (H0 := H2) n3
  have c03 : Chg p H H3 := c1.trans (.of (s2.trans s3))
  refine nv_5 (v_seq (ifS_post (fun σ' H' => ∃ tots' e7, σ' = [some (.ref p), some v, some (.ref bl), some (.ref sl), some (.ref qr), some (.ref qt), none, e7] ∧ Chg p H H' ∧ PurseAt H' p ∧ H' qt = some (.lst ((tots' : Row).map V.int)) ∧ tots'.length = B.length ∧ ∀ z ∈ tots', -1000000 ≤ z ∧ z ≤ 1000000) ?_ ?_))
  rotate_left
  · intro nx' hq
    walk_at "rd"
    refine ⟨by decide, fun l4 n4 => ?_⟩
    have s4 := same_new (o := .lst []) n4
    have e4 : (upd H3 l4 (.lst [])) l4 = some (.lst []) := upd_same
    generalize upd H3 l4 (.lst []) = H4 at s4 e4
    have e34 := s4 _ _ e3
    have p4 := p3.same s4
    have c04 := c03.trans (.of s4)
    refine w_neD (α := Row) (a := tots) (b := []) (rep_row_of e34) (rep_row_of e4) ?_
    walk_at "rd"
    refine w_ite (fun h => ?_) (fun h => ?_)
    · have tpos := List.length_pos_iff.mpr h
      walk_at "rd"
      refine ⟨p, _, rfl, p4, by decide, fun z5 H5 c5 p5 l3 l4 => ?_⟩
      have e35 := c5 _ _ ntp e34
      walk_at "rd"
      refine w_ite (fun h5 => ?_) (fun h5 => ?_)
      · walk_at "rd"
        refine ⟨p, _, rfl, p5, by rw [lenV]; omega, fun z6 H6 c6 p6 l5 l6 => ?_⟩
        rw [lenV] at l6
        obtain ⟨at6, rfl⟩ := Int.eq_ofNat_of_zero_le l5
        have e36 := c6 _ _ ntp e35
        have gat := at0_get (r := tots) (i := at6) (by omega)
        walk_at "rd"
        refine ⟨p, _, rfl, p6, by decide, fun z7 H7 c7 p7 l7 l8 => ?_⟩
        have e37 := c7 _ _ ntp e36
        walk_at "rd"
        refine w_I (.l (bdc (by decide))) ?_
        walk_at "rd"
        refine w_set e37 (by rw [lenV]; omega) ?_
        have tba := tb _ (List.mem_of_getElem? gat)
        refine hq _ _ ⟨tots.set at6 (at0 tots at6 + 1 - 2 * z7), _, rfl, (((c04.trans c5).trans c6).trans c7).mut nqt, p7.upd ntp, by rw [List.map_set]; exact upd_same, by rw [List.length_set, tl], fun z hz => ?_⟩
        rcases List.mem_or_eq_of_mem_set hz with q | q
        · have := tb z q; omega
        · rw [q]; omega
      · walk_at "rd"
        exact hq _ _ ⟨tots, _, rfl, c04.trans c5, p5, e35, tl, fun z hz => by have := tb z hz; omega⟩
    · walk_at "rd"
      exact hq _ _ ⟨tots, _, rfl, c04, p4, e34, tl, fun z hz => by have := tb z hz; omega⟩
  rintro σ' H4 ⟨tots', e7, rfl, c4, p4, e4, tl', tb'⟩
  walk_at "rd"
  exact k qt tots' H4 c4 p4 nqt e4 tl' tb'
end
end G
end
section
set_option Elab.async false
set_option linter.all false
set_option maxRecDepth 100000
namespace G
/-! ### classes of nodes -/
def rel (c : Nat → Nat) (G : List Edge) : List Edge := G.map fun e => ⟨c e.a, c e.b, e.lo, e.hi⟩
theorem fE_rel {c : Nat → Nat} {S : Cut} : ∀ {G : List Edge}, fE (rel c G) S = fE G (fun n => S (c n))
  | [] => rfl
  | e :: G => by
    show fE (rel c G) S + _ - _ = fE G _ + _ - _
    rw [fE_rel (G := G)]
theorem fE_congr {S T : Cut} : ∀ {G : List Edge}, (∀ e ∈ G, S e.a = T e.a ∧ S e.b = T e.b) → fE G S = fE G T
  | [], _ => rfl
  | e :: G, h => by
    obtain ⟨h1, h2⟩ := h e (List.mem_cons_self ..)
    unfold fE
    rw [fE_congr fun x hx => h x (List.mem_cons_of_mem _ hx), h1, h2]
theorem fits_rel {c : Nat → Nat} : ∀ {G : List Edge} {X : List Int}, Fits (rel c G) X ↔ Fits G X
  | [], [] => Iff.rfl
  | [], _ :: _ => Iff.rfl
  | _ :: _, [] => Iff.rfl
  | e :: G, x :: X => by
    show (e.lo ≤ x ∧ x ≤ e.hi ∧ Fits (rel c G) X) ↔ _
    rw [fits_rel]
    rfl
theorem fits_len : ∀ {G : List Edge} {X : List Int}, Fits G X → X.length = G.length
  | [], [], _ => rfl
  | e :: G, x :: X, h => by rw [List.length_cons, List.length_cons, fits_len h.2.2]
  | [], _ :: _, h => h.elim
  | _ :: _, [], h => h.elim
theorem sumTo_shift {n : Nat} {f : Nat → Int} : sumTo (n + 1) f = f 0 + sumTo n fun i => f (i + 1) := by
  induction n with
  | zero => show 0 + f 0 = f 0 + 0; omega
  | succ n ih =>
    show sumTo (n + 1) f + f (n + 1) = _
    rw [ih]
    show f 0 + sumTo n (fun i => f (i + 1)) + f (n + 1) = f 0 + (sumTo n (fun i => f (i + 1)) + f (n + 1))
    omega
/-- nets by numbers -/
theorem net_sum {z : Nat} : ∀ {G : List Edge} {X : List Int}, X.length = G.length → netE G X z = sumTo G.length fun i => at0 X i * (oI (decide ((G.getD i ⟨0, 0, 0, 0⟩).b = z)) 1 - oI (decide ((G.getD i ⟨0, 0, 0, 0⟩).a = z)) 1)
  | [], [], _ => rfl
  | e :: G, x :: X, h => by
    rw [List.length_cons, sumTo_shift]
    show netE G X z + x * _ = _
    rw [net_sum (G := G) (X := X) (by simpa using h)]
    show _ = x * (oI (decide (e.b = z)) 1 - oI (decide (e.a = z)) 1) + sumTo G.length fun i => at0 X i * (oI (decide ((G.getD i ⟨0, 0, 0, 0⟩).b = z)) 1 - oI (decide ((G.getD i ⟨0, 0, 0, 0⟩).a = z)) 1)
    omega
  | [], _ :: _, h => by simp at h
  | _ :: _, [], h => by simp at h
/-- what amounts bring to a book is what flows to its node -/
theorem led_net {w : Nat} {L : List Ln} {lims : List (Int × Int)} {G : List Edge} (W : Web w L lims G) {X : List Int} {j : Nat} (hj : j < w) : ∀ n, n ≤ G.length → at0 (ledF w L X n) j = sumTo n fun i => at0 X i * (oI (decide ((G.getD i ⟨0, 0, 0, 0⟩).b = j + 1)) 1 - oI (decide ((G.getD i ⟨0, 0, 0, 0⟩).a = j + 1)) 1)
  | 0, _ => at0_zr
  | n + 1, hn => by
    have ih := led_net W (X := X) hj n (by omega)
    have ge := List.getElem?_eq_getElem (l := G) (i := n) (by omega)
    obtain ⟨x, g1, g2, g3, g4, g5, _⟩ := W.ok n _ ge
    have e1 : L.getD n ⟨[], 0, 0⟩ = x := by rw [List.getD_eq_getElem?_getD, g1]; rfl
    have e2 : G.getD n ⟨0, 0, 0, 0⟩ = G[n] := by rw [List.getD_eq_getElem?_getD, ge]; rfl
    unfold ledF sumTo
    rw [e1, g2, at0_less (by rw [ledF_length, plain_length]), ih, plain_at, if_pos hj]
    show _ = sumTo n _ + at0 X n * (oI (decide ((G.getD n ⟨0, 0, 0, 0⟩).b = j + 1)) 1 - oI (decide ((G.getD n ⟨0, 0, 0, 0⟩).a = j + 1)) 1)
    rw [e2]
    have : (if j + 1 = G[n].b then (1 : Int) else if j + 1 = G[n].a then -1 else 0) = oI (decide (G[n].b = j + 1)) 1 - oI (decide (G[n].a = j + 1)) 1 := by
      by_cases h1 : j + 1 = G[n].b
      · rw [if_pos h1, decide_eq_true h1.symm, decide_eq_false (fun q => g5 (by omega))]
        rfl
      · rw [if_neg h1, decide_eq_false (fun q => h1 q.symm)]
        by_cases h2 : j + 1 = G[n].a
        · rw [if_pos h2, decide_eq_true h2.symm]
          rfl
        · rw [if_neg h2, decide_eq_false (fun q => h2 q.symm)]
          rfl
    rw [this, Int.neg_mul, Int.sub_neg]
theorem net_add_list {f : Nat → Nat → Int} : ∀ (l : Row) (n : Nat), (l.map fun z => sumTo n fun i => f i z.toNat).sum = sumTo n fun i => (l.map fun z => f i z.toNat).sum
  | [], n => by
    simp
    exact (sumTo_zero (n := n)).symm
  | z :: l, n => by
    rw [List.map_cons, List.sum_cons, net_add_list l n, ← sumTo_add]
    refine sumTo_congr fun i _ => ?_
    rw [List.map_cons, List.sum_cons]
theorem sum_pick {b : Nat} : ∀ {l : Row}, l.Nodup → (∀ z ∈ l, 0 ≤ z) → (l.map fun z => oI (decide (b = z.toNat)) 1).sum = oI (decide ((b : Int) ∈ l)) 1
  | [], _, _ => rfl
  | z :: l, h, h0 => by
    obtain ⟨h1, h2⟩ := List.pairwise_cons.mp h
    have hz := h0 z (List.mem_cons_self ..)
    rw [List.map_cons, List.sum_cons, sum_pick h2 fun y hy => h0 y (List.mem_cons_of_mem _ hy)]
    by_cases c : b = z.toNat
    · have e : (b : Int) = z := by omega
      have nz : ¬ (b : Int) ∈ l := fun q => h1 (b : Int) q e.symm
      rw [decide_eq_true c, decide_eq_false nz, decide_eq_true (show (b : Int) ∈ z :: l by rw [e]; exact List.mem_cons_self ..)]
      rfl
    · have e : ¬ (b : Int) = z := by omega
      have : decide ((b : Int) ∈ z :: l) = decide ((b : Int) ∈ l) := decide_eq_decide.mpr ⟨fun q => (List.mem_cons.mp q).resolve_left e, fun q => List.mem_cons_of_mem _ q⟩
      rw [decide_eq_false c, this]
      show 0 + _ = _
      omega
theorem sum_lin : ∀ {l : Row} {x : Int} {f g : Int → Int}, (l.map fun z => x * (f z - g z)).sum = x * ((l.map f).sum - (l.map g).sum)
  | [], x, f, g => by simp
  | z :: l, x, f, g => by
    rw [List.map_cons, List.sum_cons, sum_lin (l := l), List.map_cons, List.sum_cons, List.map_cons, List.sum_cons]
    rw [← Int.mul_add]
    congr 1
    omega
/-- the total of some books is what flows into their class -/
theorem tot_net {w : Nat} {L : List Ln} {lims : List (Int × Int)} {G : List Edge} (W : Web w L lims G) {X : List Int} (hX : X.length = G.length) {l : Row} (nd : l.Nodup) (hl : ∀ z ∈ l, 1 ≤ z ∧ z ≤ (w : Int)) {c : Nat → Nat} {i : Nat} (hc : ∀ e ∈ G, (c e.a = i ↔ (e.a : Int) ∈ l) ∧ (c e.b = i ↔ (e.b : Int) ∈ l)) :
    Tot (ledF w L X L.length) l = netE (rel c G) X i := by
  have e1 : Tot (ledF w L X L.length) l = (l.map fun z => sumTo G.length fun i => at0 X i * (oI (decide ((G.getD i ⟨0, 0, 0, 0⟩).b = z.toNat)) 1 - oI (decide ((G.getD i ⟨0, 0, 0, 0⟩).a = z.toNat)) 1)).sum := by
    unfold Tot
    congr 1
    refine List.map_congr_left fun z hz => ?_
    obtain ⟨h1, h2⟩ := hl z hz
    rw [W.l1, led_net W (by omega) G.length (Nat.le_refl _)]
    have : z.toNat - 1 + 1 = z.toNat := by omega
    rw [this]
  rw [e1, net_add_list (f := fun i n => at0 X i * (oI (decide ((G.getD i ⟨0, 0, 0, 0⟩).b = n)) 1 - oI (decide ((G.getD i ⟨0, 0, 0, 0⟩).a = n)) 1)), net_sum (by unfold rel; rw [List.length_map, hX])]
  unfold rel
  rw [List.length_map]
  refine sumTo_congr fun j hj => ?_
  have ge := List.getElem?_eq_getElem (l := G) (i := j) hj
  have e2 : G.getD j ⟨0, 0, 0, 0⟩ = G[j] := by rw [List.getD_eq_getElem?_getD, ge]; rfl
  have e3 : (G.map fun e => (⟨c e.a, c e.b, e.lo, e.hi⟩ : Edge)).getD j ⟨0, 0, 0, 0⟩ = ⟨c G[j].a, c G[j].b, G[j].lo, G[j].hi⟩ := by
    rw [List.getD_eq_getElem?_getD, List.getElem?_map, ge]
    rfl
  obtain ⟨h1, h2⟩ := hc G[j] (List.getElem_mem hj)
  rw [e2, e3, sum_lin (f := fun z => oI (decide (G[j].b = z.toNat)) 1) (g := fun z => oI (decide (G[j].a = z.toNat)) 1), sum_pick nd fun z hz => by have := hl z hz; omega, sum_pick nd fun z hz => by have := hl z hz; omega]
  rw [decide_eq_decide.mpr h1, decide_eq_decide.mpr h2]
/-! ### all amounts -/
theorem allA_snoc {lims : List (Int × Int)} {c : Int × Int} {X : Row} : X ∈ allA (lims ++ [c]) ↔ ∃ Y x, X = Y ++ [x] ∧ Y ∈ allA lims ∧ c.1 ≤ x ∧ x ≤ c.2 := by
  have e : allA (lims ++ [c]) = stepA (allA lims) c := by
    unfold allA
    rw [List.foldl_append]
    rfl
  rw [e]
  unfold stepA
  rw [List.mem_flatMap]
  constructor
  · rintro ⟨Y, h1, h2⟩
    obtain ⟨k, hk, rfl⟩ := List.mem_map.mp h2
    have := List.mem_range.mp hk
    exact ⟨Y, c.1 + k, rfl, h1, by omega, by omega⟩
  · rintro ⟨Y, x, rfl, h1, h2, h3⟩
    refine ⟨Y, h1, List.mem_map.mpr ⟨(x - c.1).toNat, List.mem_range.mpr (by omega), ?_⟩⟩
    have : c.1 + ((x - c.1).toNat : Int) = x := by omega
    rw [this]
theorem fits_snoc : ∀ {G : List Edge} {e : Edge} {X : List Int}, Fits (G ++ [e]) X ↔ ∃ Y x, X = Y ++ [x] ∧ Fits G Y ∧ e.lo ≤ x ∧ x ≤ e.hi
  | [], e, [] => ⟨fun h => h.elim, fun ⟨Y, x, h, _⟩ => by simp at h⟩
  | [], e, x :: X => by
    constructor
    · rintro ⟨h1, h2, h3⟩
      cases X with
      | nil => exact ⟨[], x, rfl, trivial, h1, h2⟩
      | cons y X => exact h3.elim
    · rintro ⟨Y, y, h, h1, h2, h3⟩
      cases Y with
      | nil =>
        injection h with h h'
        subst h
        subst h'
        exact ⟨h2, h3, trivial⟩
      | cons z Y => exact h1.elim
  | d :: G, e, [] => ⟨fun h => h.elim, fun ⟨Y, x, h, _⟩ => by simp at h⟩
  | d :: G, e, x :: X => by
    show (d.lo ≤ x ∧ x ≤ d.hi ∧ Fits (G ++ [e]) X) ↔ _
    rw [fits_snoc]
    constructor
    · rintro ⟨h1, h2, Y, y, rfl, h3, h4, h5⟩
      exact ⟨x :: Y, y, rfl, ⟨h1, h2, h3⟩, h4, h5⟩
    · rintro ⟨Y, y, h, h3, h4, h5⟩
      cases Y with
      | nil => exact h3.elim
      | cons z Y =>
        injection h with h h'
        subst h
        exact ⟨h3.1, h3.2.1, Y, y, h', h3.2.2, h4, h5⟩
theorem allA_fits : ∀ (n : Nat) (G : List Edge), G.length = n → ∀ X, X ∈ allA (G.map fun e => (e.lo, e.hi)) ↔ Fits G X
  | 0, G, h, X => by
    have : G = [] := List.eq_nil_of_length_eq_zero h
    subst this
    constructor
    · intro h
      have : X = [] := by simpa [allA] using h
      rw [this]
      trivial
    · intro h
      cases X with
      | nil => simp [allA]
      | cons x X => exact h.elim
  | n + 1, G, h, X => by
    obtain ⟨K, e, rfl⟩ : ∃ K e, G = K ++ [e] := by
      have : G ≠ [] := fun q => by rw [q] at h; cases h
      exact ⟨G.dropLast, G.getLast this, (List.dropLast_concat_getLast this).symm⟩
    rw [List.map_append, List.map_cons, List.map_nil, allA_snoc, fits_snoc]
    have ih := fun Y => allA_fits n K (by simpa using h) Y
    constructor
    · rintro ⟨Y, x, h1, h2, h3⟩
      exact ⟨Y, x, h1, (ih Y).mp h2, h3⟩
    · rintro ⟨Y, x, h1, h2, h3⟩
      exact ⟨Y, x, h1, (ih Y).mpr h2, h3⟩
end G
end
section
set_option Elab.async false
set_option linter.all false
set_option maxRecDepth 100000
namespace G
/-! ### sets of classes and cuts -/
theorem nodup_num {num : Row} (h : Asc num) : num.Nodup := List.Pairwise.imp (fun h e => by omega) h
theorem sS_congr {k : Nat} {s t : Nat → Int} {S T : Cut} (h : ∀ i, i < k → s i = t i ∧ S i = T i) : sS k s S = sS k t T := by
  unfold sS
  refine sumTo_congr fun i hi => ?_
  obtain ⟨h1, h2⟩ := h i hi
  rw [h1, h2]
theorem sum_cut {k : Nat} {f : Nat → Int} : ∀ {l : Row}, l.Nodup → (∀ z ∈ l, 0 ≤ z ∧ z < (k : Int)) → (l.map fun z => f z.toNat).sum = sS k f (inS l)
  | [], _, _ => by
    unfold sS
    have : sumTo k (fun i => if inS [] i then f i else 0) = sumTo k fun _ => 0 := sumTo_congr fun i _ => by simp [inS]
    rw [this, sumTo_zero]
    rfl
  | z :: l, nd, h => by
    obtain ⟨n1, n2⟩ := List.pairwise_cons.mp nd
    have hz := h z (List.mem_cons_self ..)
    rw [List.map_cons, List.sum_cons, sum_cut n2 fun y hy => h y (List.mem_cons_of_mem _ hy)]
    have e : f z.toNat = sumTo k fun i => if i = z.toNat then f i else 0 := by
      rw [sumTo_single (p := z.toNat) (by omega) fun i _ hn => if_neg hn, if_pos rfl]
    unfold sS
    rw [e, ← sumTo_add]
    refine sumTo_congr fun i _ => ?_
    by_cases q : i = z.toNat
    · have hm : ¬ (i : Int) ∈ l := fun hm => n1 (i : Int) hm (by omega)
      have h1 : inS l i = false := decide_eq_false hm
      have h2 : inS (z :: l) i = true := decide_eq_true (by rw [show (i : Int) = z by omega]; exact List.mem_cons_self ..)
      rw [h1, h2, if_pos q]
      simp
    · have h1 : inS (z :: l) i = inS l i := decide_eq_decide.mpr ⟨fun q2 => (List.mem_cons.mp q2).resolve_left (by omega), fun q2 => List.mem_cons_of_mem _ q2⟩
      rw [h1, if_neg q]
      omega
/-- the set of a cut -/
def numOf (k : Nat) (S : Cut) : Row := ((List.range k).filter S).map fun (i : Nat) => (i : Int)
theorem numOf_mem {k : Nat} {S : Cut} {z : Int} : z ∈ numOf k S ↔ ∃ i : Nat, z = i ∧ i < k ∧ S i = true := by
  unfold numOf
  constructor
  · intro h
    obtain ⟨i, hi, rfl⟩ := List.mem_map.mp h
    have := List.mem_filter.mp hi
    exact ⟨i, rfl, List.mem_range.mp this.1, this.2⟩
  · rintro ⟨i, rfl, h1, h2⟩
    exact List.mem_map.mpr ⟨i, List.mem_filter.mpr ⟨List.mem_range.mpr h1, h2⟩, rfl⟩
theorem inS_numOf {k : Nat} {S : Cut} {i : Nat} (h : i < k) : inS (numOf k S) i = S i := by
  unfold inS
  cases q : S i with
  | true => exact decide_eq_true (numOf_mem.mpr ⟨i, rfl, h, q⟩)
  | false =>
    refine decide_eq_false fun z => ?_
    obtain ⟨j, e, _, h2⟩ := numOf_mem.mp z
    have : i = j := by omega
    rw [← this, q] at h2
    cases h2
theorem numOf_asc {k : Nat} {S : Cut} : Asc (numOf k S) := filt_asc
theorem numOf_sets {k : Nat} {S : Cut} {T : Row} (hT : ∀ i, i < k → S i = true → (i : Int) ∈ T) : numOf k S ∈ sets T T.length := by
  have h : ∀ x ∈ numOf k S, x ∈ T := fun x hx => by
    obtain ⟨i, rfl, h1, h2⟩ := numOf_mem.mp hx
    exact hT i h1 h2
  exact sets_all (asc_len numOf_asc h) h numOf_asc
/-! ### the classes of a whole -/
theorem whole_at {w n : Nat} {B : Mat} (hB : Blk w n B) {z i : Nat} (hz : z ≤ w) (hi : i < B.length + 1) : (z : Int) ∈ (wholeOf w B).getD i [] ↔ i = bOf B (z : Int) := by
  have hle := bOf_le B (z : Int)
  unfold wholeOf
  rw [List.getD_eq_getElem?_getD]
  by_cases c : i < B.length
  · rw [List.getElem?_append_left c, ← List.getD_eq_getElem?_getD]
    constructor
    · intro h
      exact (bOf_blk hB c h).symm
    · intro h
      rw [h]
      exact bOf_mem (by omega)
  · have e : i = B.length := by omega
    rw [List.getElem?_append_right (by omega), e, Nat.sub_self]
    show (z : Int) ∈ restOf w B ↔ _
    constructor
    · intro h
      exact (bOf_flat.mpr (rest_not h)).symm
    · intro h
      have := bOf_flat.mp h.symm
      unfold restOf
      refine List.mem_map.mpr ⟨z, List.mem_filter.mpr ⟨List.mem_range.mpr (by omega), ?_⟩, rfl⟩
      simp [this]
theorem node_in {w n : Nat} {B : Mat} (hB : Blk w n B) {z : Nat} (hz : z ≤ w) {num : Row} (hn : ∀ x ∈ num, 0 ≤ x ∧ x < ((B.length + 1 : Nat) : Int)) : (z : Int) ∈ nodesOf (wholeOf w B) num ↔ ((bOf B (z : Int) : Nat) : Int) ∈ num := by
  unfold nodesOf
  rw [List.mem_flatMap]
  constructor
  · rintro ⟨x, h1, h2⟩
    have := hn x h1
    have := (whole_at hB hz (by omega)).mp h2
    rw [← this, show ((x.toNat : Nat) : Int) = x by omega]
    exact h1
  · intro h
    have hle := bOf_le B (z : Int)
    refine ⟨_, h, ?_⟩
    rw [Int.toNat_natCast]
    exact (whole_at hB hz (by omega)).mpr rfl
theorem Web.edge {w : Nat} {L : List Ln} {lims : List (Int × Int)} {G : List Edge} (W : Web w L lims G) {e : Edge} (h : e ∈ G) : e.a ≤ w ∧ e.b ≤ w ∧ e.lo ≤ e.hi := by
  obtain ⟨i, hi, rfl⟩ := List.getElem_of_mem h
  obtain ⟨x, _, _, g3, g4, _, g6, _⟩ := W.ok i _ (List.getElem?_eq_getElem hi)
  exact ⟨g3, g4, g6⟩
abbrev cls (B : Mat) : Nat → Nat := fun z => bOf B (z : Int)
theorem rel_ok {w : Nat} {L : List Ln} {lims : List (Int × Int)} {G : List Edge} (W : Web w L lims G) {c : Nat → Nat} {k : Nat} (hc : ∀ z, c z < k) : ∀ e ∈ rel c G, e.lo ≤ e.hi ∧ e.a < k ∧ e.b < k := fun e he => by
  obtain ⟨d, hd, rfl⟩ := List.mem_map.mp he
  exact ⟨(W.edge hd).2.2, hc _, hc _⟩
theorem cls_lt {B : Mat} {z : Nat} : cls B z < B.length + 1 := by
  have := bOf_le B (z : Int)
  show bOf B (z : Int) < _
  omega
section
variable {w n : Nat} {L : List Ln} {lims : List (Int × Int)} {G : List Edge} {B : Mat}
theorem most_cut (W : Web w L lims G) (hB : Blk w n B) {num : Row} (hn : ∀ x ∈ num, 0 ≤ x ∧ x < ((B.length + 1 : Nat) : Int)) : mostF (wholeOf w B) G num = fE (rel (cls B) G) (inS num) := by
  unfold mostF brD
  rw [if_pos rfl, fE_rel]
  refine fE_congr fun e he => ?_
  obtain ⟨h1, h2, _⟩ := W.edge he
  exact ⟨decide_eq_decide.mpr (node_in hB h1 hn), decide_eq_decide.mpr (node_in hB h2 hn)⟩
theorem least_cut (W : Web w L lims G) (hB : Blk w n B) {num : Row} (hn : ∀ x ∈ num, 0 ≤ x ∧ x < ((B.length + 1 : Nat) : Int)) : leastF (wholeOf w B) G num = -fE (rel (cls B) G) (fun i => !inS num i) := by
  unfold leastF brD
  rw [if_neg (by decide), fE_rel]
  congr 1
  refine fE_congr fun e he => ?_
  obtain ⟨h1, h2, _⟩ := W.edge he
  exact ⟨congrArg Bool.not (decide_eq_decide.mpr (node_in hB h1 hn)), congrArg Bool.not (decide_eq_decide.mpr (node_in hB h2 hn))⟩
/-- no fault: all cuts hold -/
theorem fault_cut (W : Web w L lims G) (hB : Blk w n B) {sums : Row} : faultOf (wholeOf w B) G sums = none ↔ ∀ S : Cut, sS (B.length + 1) (at0 sums) S ≤ fE (rel (cls B) G) S ∧ -fE (rel (cls B) G) (fun i => !S i) ≤ sS (B.length + 1) (at0 sums) S := by
  have wl := whole_len (w := w) (B := B)
  unfold faultOf
  rw [List.find?_eq_none, wl]
  have ok := rel_ok W (c := cls B) (k := B.length + 1) fun z => cls_lt
  constructor
  · intro h S
    have hm := h (numOf (B.length + 1) S) (by
      have := numOf_sets (k := B.length + 1) (S := S) (T := rangeR (B.length + 1)) fun i hi _ => rangeR_mem.mpr (by omega)
      rwa [rangeR_len] at this)
    have hn : ∀ x ∈ numOf (B.length + 1) S, 0 ≤ x ∧ x < ((B.length + 1 : Nat) : Int) := fun x hx => by
      obtain ⟨i, rfl, h1, _⟩ := numOf_mem.mp hx
      omega
    have hs : sumAt sums (numOf (B.length + 1) S) = sS (B.length + 1) (at0 sums) S := (sum_cut (nodup_num numOf_asc) hn).trans (sS_congr fun i hi => ⟨rfl, inS_numOf hi⟩)
    have e1 : fE (rel (cls B) G) (inS (numOf (B.length + 1) S)) = fE (rel (cls B) G) S := fE_congr fun e he => ⟨inS_numOf (ok e he).2.1, inS_numOf (ok e he).2.2⟩
    have e2 : fE (rel (cls B) G) (fun i => !inS (numOf (B.length + 1) S) i) = fE (rel (cls B) G) fun i => !S i := fE_congr fun e he => ⟨congrArg Bool.not (inS_numOf (ok e he).2.1), congrArg Bool.not (inS_numOf (ok e he).2.2)⟩
    have h3 : ¬ (mostF (wholeOf w B) G (numOf (B.length + 1) S) < sumAt sums (numOf (B.length + 1) S) ∨ sumAt sums (numOf (B.length + 1) S) < leastF (wholeOf w B) G (numOf (B.length + 1) S)) := fun q => hm (decide_eq_true q)
    rw [most_cut W hB hn, least_cut W hB hn, hs, e1, e2] at h3
    omega
  · intro h num hnum hf
    obtain ⟨m1, m2, m3⟩ := sets_mem hnum
    have hn : ∀ x ∈ num, 0 ≤ x ∧ x < ((B.length + 1 : Nat) : Int) := fun x hx => rangeR_mem.mp (m2 x hx)
    have hs : sumAt sums num = sS (B.length + 1) (at0 sums) (inS num) := sum_cut (nodup_num m3) hn
    have h3 := of_decide_eq_true hf
    rw [most_cut W hB hn, least_cut W hB hn, hs] at h3
    have := h (inS num)
    omega
theorem sums_all {tots : Row} (h : tots.length = B.length) : sS (B.length + 1) (at0 (sumsOf tots)) (fun _ => true) = 0 := by
  unfold sS
  show sumTo B.length (fun i => at0 (sumsOf tots) i) + at0 (sumsOf tots) B.length = 0
  have e1 : sumTo B.length (fun i => at0 (sumsOf tots) i) = tots.sum := by
    rw [show sumTo B.length (fun i => at0 (sumsOf tots) i) = sumTo B.length (fun i => at0 tots i) from sumTo_congr fun i hi => by unfold sumsOf; rw [at0_app, if_pos (by omega)], ← sumTo_list]
    congr 1
    have := map_at0 tots fun x => x
    rw [lenV, List.map_id', h] at this
    exact this
  have e2 : at0 (sumsOf tots) B.length = -tots.sum := by
    unfold sumsOf
    rw [at0_app, if_neg (by omega), h, Nat.sub_self]
    rfl
  omega
theorem net_all {k : Nat} : ∀ (E : List Edge) (X : List Int), (∀ e ∈ E, e.a < k ∧ e.b < k) → sS k (netE E X) (fun _ => true) = 0
  | [], X, _ => by
    unfold sS
    have : sumTo k (fun i => if true = true then netE [] X i else 0) = sumTo k fun _ => 0 := sumTo_congr fun i _ => rfl
    exact this.trans sumTo_zero
  | e :: E, [], _ => by
    unfold sS
    have : sumTo k (fun i => if true = true then netE (e :: E) [] i else 0) = sumTo k fun _ => 0 := sumTo_congr fun i _ => rfl
    exact this.trans sumTo_zero
  | e :: E, x :: X, he => by
    obtain ⟨hak, hbk⟩ := he e (List.mem_cons_self ..)
    have ih := net_all E X fun y hy => he y (List.mem_cons_of_mem _ hy)
    have e1 : sS k (netE (e :: E) (x :: X)) (fun _ => true) = sS k (netE E X) (fun _ => true) - (-x) * (oI true 1 - oI true 1) := by
      rw [← sS_less (S := fun _ => true) hak hbk]
      congr 1
      funext i
      show netE E X i + x * _ = _
      rw [Int.neg_mul]
      omega
    rw [e1, ih]
    simp [oI]
/-- amounts that bring these totals -/
def Brg (w : Nat) (L : List Ln) (G : List Edge) (B : Mat) (tots : Row) (X : Row) : Prop := Fits G X ∧ ∀ i, i < B.length → Tot (ledF w L X L.length) (B.getD i []) = at0 tots i
theorem blk_nd (hB : Blk w n B) {i : Nat} (hi : i < B.length) : (B.getD i []).Nodup := by
  have h1 := flat_take (B := B) (i := i) hi
  have h2 : ((B.take i).flatten ++ B.getD i []).Nodup := by
    rw [← h1]
    have := hB.nd
    conv at this => rw [← List.take_append_drop (i + 1) B]
    rw [List.flatten_append] at this
    exact (List.nodup_append.mp this).1
  exact (List.nodup_append.mp h2).2.1
theorem blk_in (hB : Blk w n B) {i : Nat} (hi : i < B.length) : ∀ z ∈ B.getD i [], 1 ≤ z ∧ z ≤ (w : Int) := fun z hz => hB.inn z (List.mem_flatten.mpr ⟨_, getD_mem hi, hz⟩)
theorem cls_iff (hB : Blk w n B) {i z : Nat} (hi : i < B.length) : cls B z = i ↔ (z : Int) ∈ B.getD i [] := by
  constructor
  · intro h
    rw [← h]
    exact bOf_mem (by show cls B z < _; omega)
  · intro h
    exact bOf_blk hB hi h
theorem sums_at {tots : Row} (h : tots.length = B.length) {i : Nat} (hi : i < B.length) : at0 (sumsOf tots) i = at0 tots i := by
  unfold sumsOf
  rw [at0_app, if_pos (by omega)]
theorem mt_net (W : Web w L lims G) (hB : Blk w n B) {tots X : Row} (ht : tots.length = B.length) : Brg w L G B tots X ↔ Fits G X ∧ ∀ i, i < B.length + 1 → netE (rel (cls B) G) X i = at0 (sumsOf tots) i := by
  have tn : Fits G X → ∀ i, i < B.length → Tot (ledF w L X L.length) (B.getD i []) = netE (rel (cls B) G) X i := fun hf i hi => tot_net W (fits_len hf) (blk_nd hB hi) (blk_in hB hi) fun e he => ⟨cls_iff hB hi, cls_iff hB hi⟩
  constructor
  · rintro ⟨hf, h⟩
    have h1 : ∀ i, i < B.length → netE (rel (cls B) G) X i = at0 (sumsOf tots) i := fun i hi => by rw [← tn hf i hi, h i hi, sums_at ht hi]
    refine ⟨hf, fun i hi => ?_⟩
    by_cases c : i < B.length
    · exact h1 i c
    · have e : i = B.length := by omega
      have a1 := net_all (k := B.length + 1) (rel (cls B) G) X fun e he => (rel_ok W (c := cls B) (k := B.length + 1) (fun z => cls_lt) e he).2
      have a2 := sums_all (B := B) ht
      have a3 : sumTo B.length (fun i => if true = true then netE (rel (cls B) G) X i else 0) = sumTo B.length fun i => if true = true then at0 (sumsOf tots) i else 0 := sumTo_congr fun i hi => h1 i hi
      have a1 : sumTo B.length (fun i => if true = true then netE (rel (cls B) G) X i else 0) + netE (rel (cls B) G) X B.length = 0 := a1
      have a2 : sumTo B.length (fun i => if true = true then at0 (sumsOf tots) i else 0) + at0 (sumsOf tots) B.length = 0 := a2
      rw [e]
      omega
  · rintro ⟨hf, h⟩
    exact ⟨hf, fun i hi => by rw [tn hf i hi, h i (by omega), sums_at ht hi]⟩
/-- no fault: some amounts bring these totals -/
theorem fault_mt (W : Web w L lims G) (hB : Blk w n B) {tots : Row} (ht : tots.length = B.length) : faultOf (wholeOf w B) G (sumsOf tots) = none ↔ ∃ X, Brg w L G B tots X := by
  rw [fault_cut W hB]
  have ok := rel_ok W (c := cls B) (k := B.length + 1) fun z => cls_lt
  constructor
  · intro h
    obtain ⟨X, f1, f2⟩ := hoffman (k := B.length + 1) (rel (cls B) G) (at0 (sumsOf tots)) ok (sums_all ht) fun S => (h S).1
    exact ⟨X, (mt_net W hB ht).mpr ⟨fits_rel.mp f1, f2⟩⟩
  · rintro ⟨X, hX⟩ S
    obtain ⟨f1, f2⟩ := (mt_net W hB ht).mp hX
    have e : ∀ S, sS (B.length + 1) (netE (rel (cls B) G) X) S = sS (B.length + 1) (at0 (sumsOf tots)) S := fun S => sS_congr fun i hi => ⟨f2 i hi, rfl⟩
    have h1 := net_cut (k := B.length + 1) (rel (cls B) G) X ok (fits_rel.mpr f1) S
    have h2 := net_cut (k := B.length + 1) (rel (cls B) G) X ok (fits_rel.mpr f1) fun i => !S i
    have h3 := sS_not (k := B.length + 1) (s := at0 (sumsOf tots)) (S := S)
    rw [sums_all ht] at h3
    rw [e] at h1 h2
    omega
end
end G
end
section
set_option Elab.async false
set_option linter.all false
set_option maxRecDepth 100000
namespace G
/-! ### ranges -/
/-- classes with a group of its own -/
def cls2 (B : Mat) (g : Row) : Nat → Nat := fun z => if (z : Int) ∈ g then B.length + 1 else bOf B (z : Int)
theorem net_split {c d : Nat → Nat} {h k i : Nat} (hc : ∀ z, oI (decide (c z = i)) 1 = oI (decide (d z = i)) 1 + if i = h then oI (decide (d z = k)) 1 else 0) : ∀ (G : List Edge) (X : List Int), netE (rel c G) X i = netE (rel d G) X i + if i = h then netE (rel d G) X k else 0
  | [], X => by
    show (0 : Int) = 0 + if i = h then (0 : Int) else 0
    split <;> rfl
  | e :: G, [] => by
    show (0 : Int) = 0 + if i = h then (0 : Int) else 0
    split <;> rfl
  | e :: G, x :: X => by
    have ih := net_split hc G X
    have h1 := hc e.a
    have h2 := hc e.b
    show netE (rel c G) X i + x * (oI (decide (c e.b = i)) 1 - oI (decide (c e.a = i)) 1) = (netE (rel d G) X i + x * (oI (decide (d e.b = i)) 1 - oI (decide (d e.a = i)) 1)) + if i = h then netE (rel d G) X k + x * (oI (decide (d e.b = k)) 1 - oI (decide (d e.a = k)) 1) else 0
    rw [ih, h1, h2]
    by_cases q : i = h
    · rw [if_pos q, if_pos q, if_pos q, if_pos q]
      generalize oI (decide (d e.b = i)) 1 = p1
      generalize oI (decide (d e.a = i)) 1 = p2
      generalize oI (decide (d e.b = k)) 1 = p3
      generalize oI (decide (d e.a = k)) 1 = p4
      have : x * (p1 + p3 - (p2 + p4)) = x * (p1 - p2) + x * (p3 - p4) := by
        rw [← Int.mul_add]
        congr 1
        omega
      omega
    · rw [if_neg q, if_neg q, if_neg q, if_neg q, Int.add_zero, Int.add_zero, Int.add_zero, Int.add_zero]
section
variable {w n : Nat} {L : List Ln} {lims : List (Int × Int)} {G : List Edge} {B : Mat} {g : Row}
theorem Grp.home_lt (hg : Grp w B g) : bOf B (at0 g 0) < B.length + 1 := by
  have := bOf_le B (at0 g 0)
  omega
theorem cls2_lt {z : Nat} : cls2 B g z < B.length + 1 + 1 := by
  have := bOf_le B (z : Int)
  unfold cls2
  split <;> omega
theorem cls2_g {z : Nat} : cls2 B g z = B.length + 1 ↔ (z : Int) ∈ g := by
  have := bOf_le B (z : Int)
  unfold cls2
  constructor
  · intro h
    by_cases q : (z : Int) ∈ g
    · exact q
    · rw [if_neg q] at h
      omega
  · intro h
    rw [if_pos h]
theorem cls_split (hg : Grp w B g) {i : Nat} (hi : i < B.length + 1) (z : Nat) : oI (decide (cls B z = i)) 1 = oI (decide (cls2 B g z = i)) 1 + if i = bOf B (at0 g 0) then oI (decide (cls2 B g z = B.length + 1)) 1 else 0 := by
  have hle := bOf_le B (z : Int)
  show oI (decide (bOf B (z : Int) = i)) 1 = _
  unfold cls2
  by_cases q : (z : Int) ∈ g
  · rw [if_pos q, hg.home _ q, decide_eq_false (show ¬ B.length + 1 = i by omega), decide_eq_true rfl]
    by_cases c : i = bOf B (at0 g 0)
    · rw [if_pos c, decide_eq_true c.symm]
      rfl
    · rw [if_neg c, decide_eq_false fun x => c x.symm]
      rfl
  · rw [if_neg q, decide_eq_false (show ¬ bOf B (z : Int) = B.length + 1 by omega)]
    split <;> exact (Int.add_zero _).symm
/-- what is asked of the classes, with v for the group -/
def sV (B : Mat) (g tots : Row) (v : Int) : Nat → Int := fun i => at0 (sumsOf tots) i - v * (oI (decide (bOf B (at0 g 0) = i)) 1 - oI (decide (B.length + 1 = i)) 1)
theorem sums_out {tots : Row} (ht : tots.length = B.length) : at0 (sumsOf tots) (B.length + 1) = 0 := at0_out (by unfold sumsOf; rw [List.length_append, ht]; exact Nat.le_refl _)
theorem tot_grp (W : Web w L lims G) (hg : Grp w B g) {X : Row} (hf : Fits G X) : Tot (ledF w L X L.length) g = netE (rel (cls2 B g) G) X (B.length + 1) :=
  tot_net W (fits_len hf) (nodup_num hg.asc) hg.inn fun e he => ⟨cls2_g, cls2_g⟩
theorem mt_grp (W : Web w L lims G) (hB : Blk w n B) (hg : Grp w B g) {tots X : Row} (ht : tots.length = B.length) {v : Int} : (Brg w L G B tots X ∧ Tot (ledF w L X L.length) g = v) ↔ Fits G X ∧ ∀ i, i < B.length + 1 + 1 → netE (rel (cls2 B g) G) X i = sV B g tots v i := by
  have hl := hg.home_lt
  have so := sums_out (B := B) ht
  have sp : ∀ X i, i < B.length + 1 → netE (rel (cls B) G) X i = netE (rel (cls2 B g) G) X i + if i = bOf B (at0 g 0) then netE (rel (cls2 B g) G) X (B.length + 1) else 0 := fun X i hi => net_split (cls_split hg hi) G X
  have sk : sV B g tots v (B.length + 1) = v := by
    unfold sV
    rw [so, decide_eq_false (by omega), decide_eq_true rfl]
    show 0 - v * (0 - 1) = v
    omega
  have si : ∀ i, i < B.length + 1 → sV B g tots v i = at0 (sumsOf tots) i - if i = bOf B (at0 g 0) then v else 0 := fun i hi => by
    unfold sV
    rw [decide_eq_false (show ¬ B.length + 1 = i by omega)]
    by_cases c : i = bOf B (at0 g 0)
    · rw [if_pos c, decide_eq_true c.symm]
      show _ - v * (1 - 0) = _
      omega
    · rw [if_neg c, decide_eq_false fun x => c x.symm]
      show _ - v * (0 - 0) = _
      omega
  rw [mt_net W hB ht]
  constructor
  · rintro ⟨⟨hf, h⟩, hv⟩
    rw [tot_grp W hg hf] at hv
    refine ⟨hf, fun i hi => ?_⟩
    by_cases c : i < B.length + 1
    · have h1 := h i c
      rw [sp X i c, hv] at h1
      rw [si i c]
      omega
    · have e : i = B.length + 1 := by omega
      rw [e, sk, hv]
  · rintro ⟨hf, h⟩
    have hv := h (B.length + 1) (by omega)
    rw [sk] at hv
    refine ⟨⟨hf, fun i hi => ?_⟩, (tot_grp W hg hf).trans hv⟩
    have h1 := h i (by omega)
    rw [si i hi] at h1
    rw [sp X i hi, hv]
    omega
theorem sV_cut (hg : Grp w B g) {tots : Row} (ht : tots.length = B.length) {v : Int} {S : Cut} : sS (B.length + 1 + 1) (sV B g tots v) S = sS (B.length + 1) (at0 (sumsOf tots)) S - v * (oI (S (bOf B (at0 g 0))) 1 - oI (S (B.length + 1)) 1) := by
  have hl := hg.home_lt
  have e : sS (B.length + 1 + 1) (at0 (sumsOf tots)) S = sS (B.length + 1) (at0 (sumsOf tots)) S := by
    unfold sS
    show sumTo (B.length + 1) (fun i => if S i then at0 (sumsOf tots) i else 0) + (if S (B.length + 1) then at0 (sumsOf tots) (B.length + 1) else 0) = _
    rw [sums_out (B := B) ht]
    split <;> omega
  unfold sV
  rw [sS_less (by omega) (by omega), e]
/-- the cut of a set and the group -/
def gCut (B : Mat) (num : Row) : Cut := fun i => decide (i = B.length + 1) || inS num i
theorem grp_in (hB : Blk w n B) {z : Nat} (hz : z ≤ w) {num : Row} (hn : ∀ x ∈ num, 0 ≤ x ∧ x < ((B.length + 1 : Nat) : Int)) : inS (g ++ nodesOf (wholeOf w B) num) z = gCut B num (cls2 B g z) := by
  have hle := bOf_le B (z : Int)
  unfold inS gCut cls2
  by_cases q : (z : Int) ∈ g
  · rw [if_pos q, decide_eq_true (List.mem_append_left _ q), decide_eq_true rfl]
    rfl
  · rw [if_neg q, decide_eq_false (show ¬ bOf B (z : Int) = B.length + 1 by omega), Bool.false_or]
    refine decide_eq_decide.mpr ?_
    rw [List.mem_append]
    constructor
    · exact fun h => (node_in hB hz hn).mp (h.resolve_left q)
    · exact fun h => .inr ((node_in hB hz hn).mpr h)
theorem bound_cut (W : Web w L lims G) (hB : Blk w n B) {num sums : Row} (na : Asc num) (hn : ∀ x ∈ num, 0 ≤ x ∧ x < ((B.length + 1 : Nat) : Int)) :
    boundF (wholeOf w B) G sums g 1 num = fE (rel (cls2 B g) G) (gCut B num) - sS (B.length + 1) (at0 sums) (inS num) ∧ boundF (wholeOf w B) G sums g 0 num = -fE (rel (cls2 B g) G) (fun i => !gCut B num i) - sS (B.length + 1) (at0 sums) (inS num) := by
  have hs : sumAt sums num = sS (B.length + 1) (at0 sums) (inS num) := sum_cut (nodup_num na) hn
  unfold boundF brD
  rw [if_pos rfl, if_neg (by decide), hs, fE_rel, fE_rel]
  refine ⟨?_, ?_⟩
  · congr 1
    refine fE_congr fun e he => ?_
    obtain ⟨h1, h2, _⟩ := W.edge he
    exact ⟨grp_in hB h1 hn, grp_in hB h2 hn⟩
  · congr 2
    refine fE_congr fun e he => ?_
    obtain ⟨h1, h2, _⟩ := W.edge he
    exact ⟨congrArg Bool.not (grp_in hB h1 hn), congrArg Bool.not (grp_in hB h2 hn)⟩
theorem others_iff (hB : Blk w n B) (hg : Grp w B g) {z : Int} : z ∈ othersOf (wholeOf w B) (at0 g 0) ↔ 0 ≤ z ∧ z < ((B.length + 1 : Nat) : Int) ∧ z ≠ (bOf B (at0 g 0) : Nat) := by
  have g0 : at0 g 0 ∈ g := List.mem_of_getElem? (at0_get hg.pos)
  have hw := hg.inn _ g0
  have e : ((at0 g 0).toNat : Int) = at0 g 0 := by omega
  have wa := fun i hi => whole_at hB (z := (at0 g 0).toNat) (i := i) (by omega) hi
  rw [e] at wa
  unfold othersOf
  rw [whole_len]
  constructor
  · intro h
    obtain ⟨i, hi, rfl⟩ := List.mem_map.mp h
    obtain ⟨h1, h2⟩ := List.mem_filter.mp hi
    have h1 := List.mem_range.mp h1
    refine ⟨by omega, by omega, fun q => ?_⟩
    have := (wa i h1).mpr (by omega)
    rw [decide_eq_true this] at h2
    cases h2
  · rintro ⟨h1, h2, h3⟩
    refine List.mem_map.mpr ⟨z.toNat, List.mem_filter.mpr ⟨List.mem_range.mpr (by omega), ?_⟩, by omega⟩
    rw [decide_eq_false (fun q => h3 (by have := (wa z.toNat (by omega)).mp q; omega))]
    rfl
/-- which totals of the group come -/
theorem grp_range (W : Web w L lims G) (hB : Blk w n B) (hg : Grp w B g) {tots : Row} (ht : tots.length = B.length) {X0 : Row} (hX : Brg w L G B tots X0) {v : Int} :
    (∃ X, Brg w L G B tots X ∧ Tot (ledF w L X L.length) g = v) ↔ ∀ num ∈ sets (othersOf (wholeOf w B) (at0 g 0)) (othersOf (wholeOf w B) (at0 g 0)).length, boundF (wholeOf w B) G (sumsOf tots) g 0 num ≤ v ∧ v ≤ boundF (wholeOf w B) G (sumsOf tots) g 1 num := by
  have ok2 := rel_ok W (c := cls2 B g) (k := B.length + 1 + 1) fun z => cls2_lt
  have hl := hg.home_lt
  have sall := sums_all (B := B) ht
  have tot0 : sS (B.length + 1 + 1) (sV B g tots v) (fun _ => true) = 0 := by
    rw [sV_cut hg ht, sall]
    show 0 - v * (1 - 1) = 0
    omega
  have goth : ∀ num ∈ sets (othersOf (wholeOf w B) (at0 g 0)) (othersOf (wholeOf w B) (at0 g 0)).length, Asc num ∧ (∀ x ∈ num, 0 ≤ x ∧ x < ((B.length + 1 : Nat) : Int)) ∧ sS (B.length + 1) (at0 (sumsOf tots)) (gCut B num) = sS (B.length + 1) (at0 (sumsOf tots)) (inS num) ∧ gCut B num (bOf B (at0 g 0)) = false ∧ gCut B num (B.length + 1) = true := fun num hm => by
    obtain ⟨m1, m2, m3⟩ := sets_mem hm
    refine ⟨m3, fun x hx => ?_, sS_congr fun i hi => ⟨rfl, ?_⟩, ?_, ?_⟩
    · have := (others_iff hB hg).mp (m2 x hx)
      exact ⟨this.1, this.2.1⟩
    · unfold gCut
      rw [decide_eq_false (by omega)]
      rfl
    · unfold gCut
      rw [decide_eq_false (by omega)]
      refine decide_eq_false fun q => ?_
      exact ((others_iff hB hg).mp (m2 _ q)).2.2 rfl
    · unfold gCut
      rw [decide_eq_true rfl]
      rfl
  constructor
  · rintro ⟨X, hX, hv⟩ num hm
    obtain ⟨f1, f2⟩ := (mt_grp W hB hg ht).mp ⟨hX, hv⟩
    obtain ⟨na, hn, es, c1, c2⟩ := goth num hm
    obtain ⟨b1, b2⟩ := bound_cut (g := g) (sums := sumsOf tots) W hB na hn
    have e : ∀ S, sS (B.length + 1 + 1) (netE (rel (cls2 B g) G) X) S = sS (B.length + 1 + 1) (sV B g tots v) S := fun S => sS_congr fun i hi => ⟨f2 i hi, rfl⟩
    have h1 := net_cut (k := B.length + 1 + 1) (rel (cls2 B g) G) X ok2 (fits_rel.mpr f1) (gCut B num)
    have h2 := net_cut (k := B.length + 1 + 1) (rel (cls2 B g) G) X ok2 (fits_rel.mpr f1) fun i => !gCut B num i
    have h3 := sS_not (k := B.length + 1 + 1) (s := sV B g tots v) (S := gCut B num)
    rw [tot0] at h3
    rw [e] at h1 h2
    rw [b1, b2]
    have h4 := sV_cut hg ht (v := v) (S := gCut B num)
    rw [c1, c2, es] at h4
    have h4 : sS (B.length + 1 + 1) (sV B g tots v) (gCut B num) = sS (B.length + 1) (at0 (sumsOf tots)) (inS num) - v * (0 - 1) := h4
    omega
  · intro h
    have nf := (fault_cut W hB).mp ((fault_mt W hB ht).mpr ⟨X0, hX⟩)
    obtain ⟨X, f1, f2⟩ := hoffman (k := B.length + 1 + 1) (rel (cls2 B g) G) (sV B g tots v) ok2 tot0 fun S => by
      have cut2 : ∀ T : Cut, T (bOf B (at0 g 0)) = false → T (B.length + 1) = true → numOf (B.length + 1) T ∈ sets (othersOf (wholeOf w B) (at0 g 0)) (othersOf (wholeOf w B) (at0 g 0)).length ∧ (∀ U : Cut, (∀ i, i < B.length + 1 + 1 → U i = gCut B (numOf (B.length + 1) T) i) → U = U) ∧ (∀ i, i < B.length + 1 + 1 → gCut B (numOf (B.length + 1) T) i = T i) := fun T t1 t2 => by
        refine ⟨numOf_sets fun i hi hT => (others_iff hB hg).mpr ⟨by omega, by omega, fun q => ?_⟩, fun _ _ => rfl, fun i hi => ?_⟩
        · rw [show i = bOf B (at0 g 0) by omega, t1] at hT
          cases hT
        · unfold gCut
          by_cases c : i = B.length + 1
          · rw [decide_eq_true c, c, t2]
            rfl
          · rw [decide_eq_false c, Bool.false_or]
            exact inS_numOf (by omega)
      rw [sV_cut hg ht]
      cases p : S (B.length + 1) <;> cases q : S (bOf B (at0 g 0))
      -- both out, both in: a cut of the classes
      · have e : fE (rel (cls2 B g) G) S = fE (rel (cls B) G) S := by
          rw [fE_rel, fE_rel]
          have : ∀ z : Nat, S (cls2 B g z) = S (cls B z) := fun z => by
            show S (if (z : Int) ∈ g then _ else _) = S (bOf B (z : Int))
            by_cases c : (z : Int) ∈ g
            · rw [if_pos c, hg.home _ c, p, q]
            · rw [if_neg c]
          exact fE_congr fun e he => ⟨this _, this _⟩
        have := (nf S).1
        rw [e]
        show _ - v * (0 - 0) ≤ _
        omega
      · obtain ⟨m1, _, m2⟩ := cut2 (fun i => !S i) (by show (!S _) = false; rw [q]; rfl) (by show (!S _) = true; rw [p]; rfl)
        obtain ⟨na, hn, es, c1, c2⟩ := goth _ m1
        have b2 := (bound_cut (g := g) (sums := sumsOf tots) W hB na hn).2
        have h1 := (h _ m1).1
        have e1 : fE (rel (cls2 B g) G) (fun i => !gCut B (numOf (B.length + 1) fun i => !S i) i) = fE (rel (cls2 B g) G) S := fE_congr fun e he => by
          obtain ⟨_, x1, x2⟩ := ok2 e he
          rw [m2 _ x1, m2 _ x2, Bool.not_not, Bool.not_not]
          exact ⟨rfl, rfl⟩
        have e2 : sS (B.length + 1) (at0 (sumsOf tots)) (inS (numOf (B.length + 1) fun i => !S i)) = sS (B.length + 1) (at0 (sumsOf tots)) fun i => !S i := sS_congr fun i hi => ⟨rfl, inS_numOf hi⟩
        have h3 := sS_not (k := B.length + 1) (s := at0 (sumsOf tots)) (S := S)
        rw [sall] at h3
        rw [b2, e1, e2] at h1
        show _ - v * (1 - 0) ≤ _
        omega
      · obtain ⟨m1, _, m2⟩ := cut2 S q p
        obtain ⟨na, hn, es, c1, c2⟩ := goth _ m1
        have b1 := (bound_cut (g := g) (sums := sumsOf tots) W hB na hn).1
        have h1 := (h _ m1).2
        have e1 : fE (rel (cls2 B g) G) (gCut B (numOf (B.length + 1) S)) = fE (rel (cls2 B g) G) S := fE_congr fun e he => by
          obtain ⟨_, x1, x2⟩ := ok2 e he
          exact ⟨m2 _ x1, m2 _ x2⟩
        have e2 : sS (B.length + 1) (at0 (sumsOf tots)) (inS (numOf (B.length + 1) S)) = sS (B.length + 1) (at0 (sumsOf tots)) S := sS_congr fun i hi => ⟨rfl, inS_numOf hi⟩
        rw [b1, e1, e2] at h1
        show _ - v * (0 - 1) ≤ _
        omega
      · have e : fE (rel (cls2 B g) G) S = fE (rel (cls B) G) S := by
          rw [fE_rel, fE_rel]
          have : ∀ z : Nat, S (cls2 B g z) = S (cls B z) := fun z => by
            show S (if (z : Int) ∈ g then _ else _) = S (bOf B (z : Int))
            by_cases c : (z : Int) ∈ g
            · rw [if_pos c, hg.home _ c, p, q]
            · rw [if_neg c]
          exact fE_congr fun e he => ⟨this _, this _⟩
        have := (nf S).1
        rw [e]
        show _ - v * (1 - 1) ≤ _
        omega
    obtain ⟨r1, r2⟩ := (mt_grp W hB hg ht).mpr ⟨fits_rel.mp f1, f2⟩
    exact ⟨X, r1, r2⟩
/-- with the ends -/
theorem grp_ends (W : Web w L lims G) (hB : Blk w n B) (hg : Grp w B g) {tots : Row} (ht : tots.length = B.length) {X0 : Row} (hX : Brg w L G B tots X0) {lo hi : Int} {ls hs : Row}
    (hlo : bestF 0 (boundF (wholeOf w B) G (sumsOf tots) g 0) (sets (othersOf (wholeOf w B) (at0 g 0)) (othersOf (wholeOf w B) (at0 g 0)).length) = some (lo, ls))
    (hhi : bestF 1 (boundF (wholeOf w B) G (sumsOf tots) g 1) (sets (othersOf (wholeOf w B) (at0 g 0)) (othersOf (wholeOf w B) (at0 g 0)).length) = some (hi, hs)) {v : Int} :
    (∃ X, Brg w L G B tots X ∧ Tot (ledF w L X L.length) g = v) ↔ lo ≤ v ∧ v ≤ hi := by
  obtain ⟨a1, a2, a3, _⟩ := best_first _ _ _ hlo
  obtain ⟨b1, b2, b3, _⟩ := best_first _ _ _ hhi
  rw [grp_range W hB hg ht hX]
  constructor
  · intro h
    have h1 := (h _ a2).1
    have h2 := (h _ b2).2
    omega
  · intro h num hm
    have h1 := a3 num hm
    have h2 := b3 num hm
    rw [if_neg (by decide)] at h1
    rw [if_pos rfl] at h2
    omega
end
/-! ### what is found -/
/-- the totals of the group that all amounts bring -/
def foundF (w : Nat) (L : List Ln) (lims : List (Int × Int)) (B : Mat) (tots g : Row) : Row :=
  (((allA lims).map fun X => ledF w L X L.length).filter fun row => decide (B.map (Tot row) = tots)).map fun row => Tot row g
theorem tots_iff {B : Mat} {f : Row → Int} {tots : Row} (ht : tots.length = B.length) : B.map f = tots ↔ ∀ i, i < B.length → f (B.getD i []) = at0 tots i := by
  constructor
  · rintro rfl i hi
    exact (at0_map hi).symm
  · intro h
    refine List.ext_getElem? fun i => ?_
    by_cases c : i < B.length
    · rw [at0_get (r := B.map f) (by rw [List.length_map]; exact c), at0_get (r := tots) (by omega), at0_map c, h i c]
    · rw [List.getElem?_eq_none (by rw [List.length_map]; omega), List.getElem?_eq_none (by omega)]
theorem found_mem {w : Nat} {L : List Ln} {lims : List (Int × Int)} {G : List Edge} {B : Mat} {tots g : Row} (W : Web w L lims G) (ht : tots.length = B.length) {v : Int} : v ∈ foundF w L lims B tots g ↔ ∃ X, Brg w L G B tots X ∧ Tot (ledF w L X L.length) g = v := by
  unfold foundF
  have af := allA_fits G.length G rfl
  rw [← W.l2] at af
  constructor
  · intro h
    obtain ⟨row, h1, h2⟩ := List.mem_map.mp h
    obtain ⟨h3, h4⟩ := List.mem_filter.mp h1
    obtain ⟨X, h5, rfl⟩ := List.mem_map.mp h3
    exact ⟨X, ⟨(af X).mp h5, (tots_iff ht).mp (of_decide_eq_true h4)⟩, h2⟩
  · rintro ⟨X, ⟨h1, h2⟩, h3⟩
    exact List.mem_map.mpr ⟨_, List.mem_filter.mpr ⟨List.mem_map.mpr ⟨X, (af X).mpr h1, rfl⟩, decide_eq_true ((tots_iff ht).mpr h2)⟩, h3⟩
theorem el_at0 {r : Row} {i : Nat} (h : i < r.length) : r[i] = at0 r i := by
  unfold at0
  rw [List.getD_eq_getElem?_getD, List.getElem?_eq_getElem h]
  rfl
theorem srt_ends {f r : Row} (p : r.Perm f) (s : r.Pairwise (· ≤ ·)) {lo hi : Int} (h : ∀ v, v ∈ f ↔ lo ≤ v ∧ v ≤ hi) (ne : r ≠ []) : at0 r 0 = lo ∧ at0 r (r.length - 1) = hi ∧ lo ≤ hi := by
  have pos := List.length_pos_iff.mpr ne
  have m0 := (h _).mp (p.mem_iff.mp (List.mem_of_getElem? (at0_get (r := r) (i := 0) pos)))
  have m1 := (h _).mp (p.mem_iff.mp (List.mem_of_getElem? (at0_get (r := r) (i := r.length - 1) (by omega))))
  have srt : ∀ i j, i ≤ j → j < r.length → at0 r i ≤ at0 r j := fun i j hij hj => by
    by_cases c : i = j
    · rw [c]
      exact Int.le_refl _
    · have := List.pairwise_iff_getElem.mp s i j (by omega) hj (by omega)
      rw [el_at0, el_at0] at this
      exact this
  obtain ⟨i, hi1, hi2⟩ := List.getElem_of_mem (p.mem_iff.mpr ((h lo).mpr ⟨Int.le_refl _, by omega⟩))
  obtain ⟨j, hj1, hj2⟩ := List.getElem_of_mem (p.mem_iff.mpr ((h hi).mpr ⟨by omega, Int.le_refl _⟩))
  rw [el_at0] at hi2 hj2
  have a1 := srt 0 i (by omega) hi1
  have a2 := srt j (r.length - 1) (by omega) (by omega)
  omega
end G
end
section
set_option Elab.async false
set_option linter.all false
set_option maxRecDepth 100000
namespace G
open PySem L2 PyProof.Rows
local macro_rules | `(tactic| walk_at "rd") => `(tactic| repeat (first
  | (with_reducible refine v_seq ?_)
  | (with_reducible refine v_asg ?_)
  | (with_reducible refine w_cons ?_)
  | (with_reducible refine w_nil ?_)
  | (with_reducible refine w_op ?_)
  | (with_reducible refine w_c ?_)
  | (with_reducible refine w_I0 ?_)
  | (with_reducible refine w_cb ?_)
  | (with_reducible refine w_call ?_)
  | (with_reducible refine v_ret ?_)
  | (with_reducible refine v_next ?_)
  | (with_reducible refine w_ixR (by assumption) (by assumption) ?_)
  | (with_reducible refine w_ix (by assumption) (by assumption) ?_)
  | (with_reducible refine w_test ?_)
  | (with_reducible refine w_tB ?_)
  | (with_reducible refine w_and ?_)
  | (with_reducible refine w_or ?_)
  | (with_reducible refine w_not ?_)
  | (with_reducible refine w_ifE ?_)
  | (with_reducible refine v_ifS ?_)
  | (with_reducible refine w_tt ?_)
  | (with_reducible refine w_ff ?_)
  | (with_reducible refine w_eqI ?_)
  | (with_reducible refine w_neI ?_)
  | (with_reducible refine w_U ?_)
  | (with_reducible refine w_un ?_)
  | (with_reducible refine w_len (by assumption) ?_)
  | (with_reducible refine w_abs ?_)
  | (with_reducible refine w_int ?_)
  | (with_reducible refine w_isN0 ?_)
  | (with_reducible refine w_isN1 (by assumption) ?_)
  | (with_reducible refine w_isN1 ne_in ?_)
  | (with_reducible refine w_isN1 ne_rn ?_)
  | (with_reducible refine w_notN0 ?_)
  | (with_reducible refine w_notN1 ne_in ?_)
  | (with_reducible refine w_notN1 ne_rn ?_)
  | (with_reducible refine v_lst ?_)
  | (with_reducible refine v_tup ?_)
  | (with_reducible refine w_notN1 (by assumption) ?_)
  | (with_reducible refine v_drop ?_)
  | (with_reducible refine w_bm ?_)
  | (with_reducible refine v_for ?_)
  | (with_reducible refine v_rng1 ?_)
  | (with_reducible refine v_rng2 ?_)
  | (with_reducible refine v_list ?_)
  | (with_reducible refine w_sub ?_)
  | (with_reducible refine v_ip ?_)
  | (with_reducible refine v_augS ?_)
  | (with_reducible refine v_retN ?_)
  | (with_reducible refine w_yes ?_)
  | (with_reducible refine tv_0 ?_)
  | (with_reducible refine nv_0 ?_)
  | (with_reducible refine av_0 ?_)
  | (with_reducible refine tv_1 ?_)
  | (with_reducible refine nv_1 ?_)
  | (with_reducible refine av_1 ?_)
  | (with_reducible refine tv_2 ?_)
  | (with_reducible refine nv_2 ?_)
  | (with_reducible refine av_2 ?_)
  | (with_reducible refine tv_3 ?_)
  | (with_reducible refine nv_3 ?_)
  | (with_reducible refine av_3 ?_)
  | (with_reducible refine tv_4 ?_)
  | (with_reducible refine nv_4 ?_)
  | (with_reducible refine av_4 ?_)
  | (with_reducible refine tv_5 ?_)
  | (with_reducible refine nv_5 ?_)
  | (with_reducible refine av_5 ?_)
  | (with_reducible refine tv_6 ?_)
  | (with_reducible refine nv_6 ?_)
  | (with_reducible refine av_6 ?_)
  | (with_reducible refine tv_7 ?_)
  | (with_reducible refine nv_7 ?_)
  | (with_reducible refine av_7 ?_)
  | (with_reducible refine tv_8 ?_)
  | (with_reducible refine nv_8 ?_)
  | (with_reducible refine av_8 ?_)
  | (with_reducible refine tv_9 ?_)
  | (with_reducible refine nv_9 ?_)
  | (with_reducible refine av_9 ?_)
  | (with_reducible refine tv_10 ?_)
  | (with_reducible refine nv_10 ?_)
  | (with_reducible refine av_10 ?_)
  | (with_reducible refine tv_11 ?_)
  | (with_reducible refine nv_11 ?_)
  | (with_reducible refine av_11 ?_)
  | (with_reducible refine tv_12 ?_)
  | (with_reducible refine nv_12 ?_)
  | (with_reducible refine av_12 ?_)
  | (with_reducible refine tv_13 ?_)
  | (with_reducible refine nv_13 ?_)
  | (with_reducible refine av_13 ?_)
  | (with_reducible refine tv_14 ?_)
  | (with_reducible refine nv_14 ?_)
  | (with_reducible refine av_14 ?_)
  | (with_reducible refine tv_15 ?_)
  | (with_reducible refine nv_15 ?_)
  | (with_reducible refine av_15 ?_)
  | (with_reducible refine tv_16 ?_)
  | (with_reducible refine nv_16 ?_)
  | (with_reducible refine av_16 ?_)
  | (with_reducible refine tv_17 ?_)
  | (with_reducible refine nv_17 ?_)
  | (with_reducible refine av_17 ?_)
  | (with_reducible refine tv_18 ?_)
  | (with_reducible refine nv_18 ?_)
  | (with_reducible refine av_18 ?_)
  | (with_reducible refine tv_19 ?_)
  | (with_reducible refine nv_19 ?_)
  | (with_reducible refine av_19 ?_)
  | (with_reducible refine tv_20 ?_)
  | (with_reducible refine nv_20 ?_)
  | (with_reducible refine av_20 ?_)
  | (with_reducible refine tv_21 ?_)
  | (with_reducible refine nv_21 ?_)
  | (with_reducible refine av_21 ?_)
  | (with_reducible refine tv_22 ?_)
  | (with_reducible refine nv_22 ?_)
  | (with_reducible refine av_22 ?_)
  | (with_reducible refine tv_23 ?_)
  | (with_reducible refine nv_23 ?_)
  | (with_reducible refine av_23 ?_)
  | (with_reducible refine tv_24 ?_)
  | (with_reducible refine nv_24 ?_)
  | (with_reducible refine av_24 ?_)
  | (with_reducible refine tv_25 ?_)
  | (with_reducible refine nv_25 ?_)
  | (with_reducible refine av_25 ?_)
  | (with_reducible refine ⟨_, rfl, ⟨_, SqL.of (by assumption)⟩, ?_⟩)
  | (with_reducible refine ⟨_, rfl, (by omega), (by omega), ?_⟩)
  | (with_reducible refine ⟨w_tyL (by assumption), ?_⟩)
  | (with_reducible refine w_isiII ?_)
  | (with_reducible refine w_isiIB ?_)
  | (with_reducible refine w_isiBB ?_)
  | (with_reducible refine w_isiBI ?_)
  | (with_reducible refine w_isiNL ?_)
  | (with_reducible refine w_isiLL (by assumption) ?_)
  | (with_reducible refine v_sl ?_)
  | (with_reducible refine w_nff ?_)
  | (with_reducible refine w_ntt ?_)
  | (with_reducible refine v_chain ?_)
  | (with_reducible refine v_andV ?_)
  | (with_reducible refine v_orV ?_)
  | (with_reducible refine v_chain3 ?_)
  | (with_reducible refine w_min2 ?_)
  | (with_reducible refine v_lstRg ?_)
  | (with_reducible refine w_in (by assumption) ?_)
  | (with_reducible refine w_nin (by assumption) ?_)
  | (with_reducible refine v_notV ?_)
  | (with_reducible refine v_noP ?_)
  | (with_reducible refine v_part ?_)
  | (with_reducible refine v_fld ?_)
  | (with_reducible refine v_sfld ?_)
  | (with_reducible refine ⟨_, (rfl : V.bl _ = V.bl _), ?_⟩)
  | (with_reducible refine ⟨_, (rfl : V.ref _ = V.ref _), ?_⟩)
  | (with_reducible refine ⟨_, (rfl : [V.int _] = [V.int _]), ?_⟩)
  | (with_reducible refine ⟨_, (rfl : V.int _ = V.int _), ?_⟩)
  | (with_reducible refine ⟨⟨_, SqL.of (by assumption)⟩, ?_⟩)
  | (with_reducible refine ⟨(by (first | omega | (rw [lenV]; omega)) : -(2 ^ 62) ≤ _), (by first | omega | (rw [lenV]; omega)), ?_⟩)
  | (with_reducible refine v_meth ?_)
  | (with_reducible refine v_make ?_)
  | (with_reducible refine w_neBB ?_)
  | (with_reducible refine w_eqBB ?_)
  | (with_reducible refine w_isiRI (by assumption) ?_)
  ))
theorem sql_chg {K : PySem.W.Frag} {H H' : Hp} {a p : Addr} {xs : List V} (c : Chg p H H') (n : H p = none) (h : SqL K H a xs) : SqL K H' a xs := by
  have ne : ∀ {o : HO}, H a = some o → a ≠ p := fun e z => by rw [z, n] at e; cases e
  rcases h with h | h
  · refine Or.inl ?_
    rcases h with h | ⟨o, h⟩
    · exact Or.inl (c _ _ (ne h) h)
    · exact Or.inr ⟨o, c _ _ (ne h) h⟩
  · exact Or.inr h
theorem same_off {H H' : Hp} {p : Addr} (s : Same H H') (n : H p = none) : Same H (off H' fun a => a = p) := fun a o e => off_in (fun z => by rw [z, n] at e; cases e) (s _ _ e)
theorem web_of {w m : Nat} : ∀ {L : List Ln} {lims : List (Int × Int)}, lims.length = L.length → (∀ x ∈ L, LnP w m x) → (∀ c ∈ lims, -1000 ≤ c.1 ∧ c.1 ≤ c.2 ∧ c.2 ≤ 1000) → ∃ G, Web w L lims G
  | [], [], _, _, _ => ⟨[], rfl, rfl, fun i e h => by cases h⟩
  | x :: L, c :: lims, hl, hL, hc => by
    obtain ⟨G, W⟩ := web_of (by simpa using hl) (fun y hy => hL y (List.mem_cons_of_mem _ hy)) fun y hy => hc y (List.mem_cons_of_mem _ hy)
    obtain ⟨a, b, h1, h2, h3, h4, _⟩ := hL x (List.mem_cons_self ..)
    obtain ⟨c1, c2, c3⟩ := hc c (List.mem_cons_self ..)
    refine ⟨⟨a, b, c.1, c.2⟩ :: G, by rw [List.length_cons, List.length_cons, W.l1], by rw [List.map_cons, W.l2], fun i e h => ?_⟩
    cases i with
    | zero =>
      cases h
      exact ⟨x, rfl, h4, h1, h2, h3, c2, c1, c3⟩
    | succ i => exact W.ok i e h
  | [], _ :: _, h, _, _ => by simp at h
  | _ :: _, [], h, _, _ => by simp at h
theorem fits_lo : ∀ {G : List Edge}, (∀ e ∈ G, e.lo ≤ e.hi) → Fits G (G.map fun e => e.lo)
  | [], _ => trivial
  | e :: G, h => ⟨Int.le_refl _, h e (List.mem_cons_self ..), fits_lo fun x hx => h x (List.mem_cons_of_mem _ hx)⟩
theorem fits_bd : ∀ {G : List Edge} {X : List Int}, (∀ e ∈ G, -1000 ≤ e.lo ∧ e.hi ≤ 1000) → Fits G X → ∀ z ∈ X, -1000 ≤ z ∧ z ≤ 1000
  | [], [], _, _, _, h => by cases h
  | e :: G, x :: X, h, ⟨f1, f2, f3⟩, z, hz => by
    have := h e (List.mem_cons_self ..)
    rcases List.mem_cons.mp hz with rfl | q
    · omega
    · exact fits_bd (fun y hy => h y (List.mem_cons_of_mem _ hy)) f3 z q
  | [], _ :: _, _, h, _, _ => h.elim
  | _ :: _, [], _, h, _, _ => h.elim
theorem Web.bd {w : Nat} {L : List Ln} {lims : List (Int × Int)} {G : List Edge} (W : Web w L lims G) : ∀ e ∈ G, -1000 ≤ e.lo ∧ e.hi ≤ 1000 := fun e h => by
  obtain ⟨i, hi, rfl⟩ := List.getElem_of_mem h
  obtain ⟨x, _, _, _, _, _, _, g7, g8⟩ := W.ok i _ (List.getElem?_eq_getElem hi)
  exact ⟨g7, g8⟩
theorem Web.sums {w : Nat} {L : List Ln} {lims : List (Int × Int)} {G : List Edge} (W : Web w L lims G) : 0 < (allA lims).length ∧ ∀ r ∈ allA lims, r.length = L.length ∧ ∀ z ∈ r, -1000 ≤ z ∧ z ≤ 1000 := by
  have af := allA_fits G.length G rfl
  rw [← W.l2] at af
  refine ⟨List.length_pos_of_mem ((af _).mpr (fits_lo fun e he => (W.edge he).2.2)), fun r hr => ?_⟩
  have hf := (af r).mp hr
  exact ⟨by rw [fits_len hf, W.l1], fits_bd W.bd hf⟩
theorem filt_mat (m : Mat) (g : Row → Bool) {n : Nat} (h : n = m.length) : (((List.range n).filter fun i => g (m.getD i [])).map fun i => m.getD i []) = m.filter g := by
  subst h
  conv => rhs; rw [← list_eq_range m, List.filter_map]
  rfl
theorem map_mat {β : Type} (m : Mat) (g : Row → β) {n : Nat} (h : n = m.length) : (List.range n).map (fun i => g (m.getD i [])) = m.map g := by
  subst h
  conv => rhs; rw [← list_eq_range m, List.map_map]
  rfl
/-- a list of two rows and a table -/
structure Trip where
  a : Row
  b : Row
  m : Mat
def repTrip (H : Hp) (v : V) (x : Trip) : Prop := ∃ t q1 q2 q3, v = .ref t ∧ H t = some (.lst [q1, q2, q3]) ∧ rep H q1 x.a ∧ rep H q2 x.b ∧ rep H q3 x.m
theorem trip_eq {a b : Trip} : a = b ↔ a.a = b.a ∧ a.b = b.b ∧ a.m = b.m := by
  constructor
  · rintro rfl
    exact ⟨rfl, rfl, rfl⟩
  · obtain ⟨a1, a2, a3⟩ := a
    obtain ⟨b1, b2, b3⟩ := b
    rintro ⟨rfl, rfl, rfl⟩
    rfl
instance : DecidableEq Trip := fun a b => decidable_of_iff _ trip_eq.symm
instance : Rep Trip := ⟨repTrip, fun s ⟨t, q1, q2, q3, e, h, h1, h2, h3⟩ => ⟨t, q1, q2, q3, e, s _ _ h, Rep.mono s h1, Rep.mono s h2, Rep.mono s h3⟩⟩
instance : Dat Trip where
  dat := fun x => .list [Dat.dat x.a, Dat.dat x.b, Dat.dat x.m]
  dep := Dat.dep Mat + 1
  dp := fun {K H v a} h => by
    obtain ⟨t, q1, q2, q3, rfl, h0, h1, h2, h3⟩ := h
    exact .lst (SqL.of h0) (.cons (Dat.dp h1) (.cons (Dat.dp h2) (.cons (Dat.dp h3) .nil)))
  lay := fun a => by
    obtain ⟨h1, h2⟩ := Dat.lay a.a
    obtain ⟨h3, h4⟩ := Dat.lay a.b
    obtain ⟨h5, h6⟩ := Dat.lay a.m
    have e : Dat.dep Row ≤ Dat.dep Mat := by decide
    simp only [PyData.canLay0, PyData.canLayAll0, PyData.depth, PyData.depthAll, h1, h3, h5]
    refine ⟨by decide, ?_⟩
    omega
  eqv := fun a b => by
    have h1 := Dat.eqv a.a b.a
    have h2 := Dat.eqv a.b b.b
    have h3 := Dat.eqv a.m b.m
    simp only [PyData.eqv, PyData.eqvAll]
    rw [h1, h2, h3]
    have e : decide (a = b) = decide (a.a = b.a ∧ a.b = b.b ∧ a.m = b.m) := decide_eq_decide.mpr trip_eq
    rw [e]
    by_cases h1 : a.a = b.a <;> by_cases h2 : a.b = b.b <;> by_cases h3 : a.m = b.m <;> simp [h1, h2, h3]
section
variable {σ : L2.St} {H : Hp} {Q : VK} {K : PySem.W.Frag} {wi : TI} {te : TE} {tt : TT} {vs : List Nat} {j : Nat}
/-- none of a range -/
theorem lcRNo {lo : Int} {n : Nat} (hi : ∀ R : It → Hp → Prop, R (Itr lo n) H → wi σ H R) (hz : n ≤ 1000000) (hw : ∀ x, wipe ((wipe σ vs).set j (some x)) vs = wipe σ vs)
    (ht : ∀ (i : Nat) H1, i < n → Same H H1 → ∀ R : Bool → Hp → Prop, (∀ H2, Same H1 H2 → R false H2) → tt ((wipe σ vs).set j (some (.int (lo + (i : Int))))) H1 R)
    (hd : NewR H [] Q) : tLc wi (gName j) tt te vs σ H Q := v_lc (hi _ fun D hD =>
  lc_range (lo := lo) (n := n) (fun _ H' => Same H H' ∧ H' D = some (.lst [])) ⟨same_new hD, upd_same⟩ (fun i H1 hi ⟨s, e⟩ => by
    refine ⟨hw _, ?_⟩
    refine ht i H1 hi s _ fun H2 s2 => ?_
    exact iteF ⟨s.trans s2, s2 _ _ e⟩) fun H' ⟨s, e⟩ => hd D H' s hD e)
end
theorem led_wb {w m : Nat} {L : List Ln} (h : ∀ x ∈ L, LnP w m x) : ∀ x ∈ L, x.sh.length = w ∧ ∀ y ∈ x.sh, -1 ≤ y ∧ y ≤ 1 := fun x hx => by
  obtain ⟨a, b, _, _, _, e, _⟩ := h x hx
  rw [e]
  exact ⟨plain_length, fun y hy => plain_bd y hy⟩
/-- what the law has at hand at each turn -/
structure Hd1 (H : Hp) (p : Addr) (wv lv sv gv : V) (w m : Nat) (L : List Ln) (lims : List (Int × Int)) : Prop where
  pu : PurseAt H p
  fw : WorldAt (off H fun a => a = p) wv w m L
  fl : rep (off H fun a => a = p) lv lims
  fs : rep (off H fun a => a = p) sv (allA lims)
  fg : rep (off H fun a => a = p) gv ((allA lims).map fun X => ledF w L X L.length)
theorem Hd1.chg {H H' : Hp} {p : Addr} {wv lv sv gv : V} {w m : Nat} {L : List Ln} {lims : List (Int × Int)} (h : Hd1 H p wv lv sv gv w m L lims) (c : Chg p H H') (pu : PurseAt H' p) : Hd1 H' p wv lv sv gv w m L lims :=
  have so := c.off (M := fun a => a = p) rfl
  ⟨pu, h.fw.mono so, Rep.mono so h.fl, Rep.mono so h.fs, Rep.mono so h.fg⟩
/-- what is told -/
def ToldAt (H : Hp) (t : Addr) (w : Nat) (G : List Edge) (B : Mat) (tots g : Row) : Prop :=
  (∃ num, faultOf (wholeOf w B) G (sumsOf tots) = some num ∧ repNev H (.ref t) (nevOf (wholeOf w B) G (sumsOf tots) num)) ∨
  (faultOf (wholeOf w B) G (sumsOf tots) = none ∧ ∃ lo ls hi hs q1 q2, bestF 0 (boundF (wholeOf w B) G (sumsOf tots) g 0) (sets (othersOf (wholeOf w B) (at0 g 0)) (othersOf (wholeOf w B) (at0 g 0)).length) = some (lo, ls) ∧
    bestF 1 (boundF (wholeOf w B) G (sumsOf tots) g 1) (sets (othersOf (wholeOf w B) (at0 g 0)) (othersOf (wholeOf w B) (at0 g 0)).length) = some (hi, hs) ∧ H t = some (.tup [.str "from", .int lo, .int hi, .ref q1, .ref q2]) ∧ H q1 = some (.lst (ls.map V.int)) ∧ H q2 = some (.lst (hs.map V.int)))
theorem ToldAt.mono {H H' : Hp} {t : Addr} {w : Nat} {G : List Edge} {B : Mat} {tots g : Row} (h : ToldAt H t w G B tots g) (s : Same H H') : ToldAt H' t w G B tots g := by
  rcases h with ⟨num, h1, h2⟩ | ⟨h1, lo, ls, hi, hs, q1, q2, h2, h3, h4, h5, h6⟩
  · exact .inl ⟨num, h1, h2.mono s⟩
  · exact .inr ⟨h1, lo, ls, hi, hs, q1, q2, h2, h3, s _ _ h4, s _ _ h5, s _ _ h6⟩
theorem ToldAt.tup {H : Hp} {t : Addr} {w : Nat} {G : List Edge} {B : Mat} {tots g : Row} (h : ToldAt H t w G B tots g) : ∃ xs, H t = some (.tup xs) := by
  rcases h with ⟨num, _, _, q, e, h2, _⟩ | ⟨_, lo, ls, hi, hs, q1, q2, _, _, h4, _⟩
  · cases e
    exact ⟨_, h2⟩
  · exact ⟨_, h4⟩
theorem w_isiTup {K : PySem.W.Frag} {H : Hp} {Q : VK} {t : Addr} {xs : List V} (h : H t = some (.tup xs)) (q : Q (.bl true) H) : rIsi K [.ref t, .ty "tuple"] H Q := w_isi _ "tuple" "tuple" true (.base (.tup h)) (by decide +kernel) q
theorem w_neSame {H : Hp} {Q : VK} {s : String} (q : Q (.bl false) H) : rNe (.str s) (.str s) H Q := ⟨rfl, by rw [decide_eq_true rfl]; exact q⟩
end G
end
section
set_option Elab.async false
set_option linter.all false
set_option maxRecDepth 100000
set_option maxHeartbeats 4000000
namespace G
open PySem L2 PyProof.Rows
local macro_rules | `(tactic| walk_at "rd") => `(tactic| repeat (first
  | (with_reducible refine v_seq ?_)
  | (with_reducible refine v_asg ?_)
  | (with_reducible refine w_cons ?_)
  | (with_reducible refine w_nil ?_)
  | (with_reducible refine w_op ?_)
  | (with_reducible refine w_c ?_)
  | (with_reducible refine w_I0 ?_)
  | (with_reducible refine w_cb ?_)
  | (with_reducible refine w_call ?_)
  | (with_reducible refine v_ret ?_)
  | (with_reducible refine v_next ?_)
  | (with_reducible refine w_ixR (by assumption) (by assumption) ?_)
  | (with_reducible refine w_ix (by assumption) (by assumption) ?_)
  | (with_reducible refine w_test ?_)
  | (with_reducible refine w_tB ?_)
  | (with_reducible refine w_and ?_)
  | (with_reducible refine w_or ?_)
  | (with_reducible refine w_not ?_)
  | (with_reducible refine w_ifE ?_)
  | (with_reducible refine v_ifS ?_)
  | (with_reducible refine w_tt ?_)
  | (with_reducible refine w_ff ?_)
  | (with_reducible refine w_eqI ?_)
  | (with_reducible refine w_neI ?_)
  | (with_reducible refine w_U ?_)
  | (with_reducible refine w_un ?_)
  | (with_reducible refine w_len (by assumption) ?_)
  | (with_reducible refine w_abs ?_)
  | (with_reducible refine w_int ?_)
  | (with_reducible refine w_isN0 ?_)
  | (with_reducible refine w_isN1 (by assumption) ?_)
  | (with_reducible refine w_isN1 ne_in ?_)
  | (with_reducible refine w_isN1 ne_rn ?_)
  | (with_reducible refine w_notN0 ?_)
  | (with_reducible refine w_notN1 ne_in ?_)
  | (with_reducible refine w_notN1 ne_rn ?_)
  | (with_reducible refine v_lst ?_)
  | (with_reducible refine v_tup ?_)
  | (with_reducible refine w_notN1 (by assumption) ?_)
  | (with_reducible refine v_drop ?_)
  | (with_reducible refine w_bm ?_)
  | (with_reducible refine v_for ?_)
  | (with_reducible refine v_rng1 ?_)
  | (with_reducible refine v_rng2 ?_)
  | (with_reducible refine v_list ?_)
  | (with_reducible refine w_sub ?_)
  | (with_reducible refine v_ip ?_)
  | (with_reducible refine v_augS ?_)
  | (with_reducible refine v_retN ?_)
  | (with_reducible refine w_yes ?_)
  | (with_reducible refine tv_0 ?_)
  | (with_reducible refine nv_0 ?_)
  | (with_reducible refine av_0 ?_)
  | (with_reducible refine tv_1 ?_)
  | (with_reducible refine nv_1 ?_)
  | (with_reducible refine av_1 ?_)
  | (with_reducible refine tv_2 ?_)
  | (with_reducible refine nv_2 ?_)
  | (with_reducible refine av_2 ?_)
  | (with_reducible refine tv_3 ?_)
  | (with_reducible refine nv_3 ?_)
  | (with_reducible refine av_3 ?_)
  | (with_reducible refine tv_4 ?_)
  | (with_reducible refine nv_4 ?_)
  | (with_reducible refine av_4 ?_)
  | (with_reducible refine tv_5 ?_)
  | (with_reducible refine nv_5 ?_)
  | (with_reducible refine av_5 ?_)
  | (with_reducible refine tv_6 ?_)
  | (with_reducible refine nv_6 ?_)
  | (with_reducible refine av_6 ?_)
  | (with_reducible refine tv_7 ?_)
  | (with_reducible refine nv_7 ?_)
  | (with_reducible refine av_7 ?_)
  | (with_reducible refine tv_8 ?_)
  | (with_reducible refine nv_8 ?_)
  | (with_reducible refine av_8 ?_)
  | (with_reducible refine tv_9 ?_)
  | (with_reducible refine nv_9 ?_)
  | (with_reducible refine av_9 ?_)
  | (with_reducible refine tv_10 ?_)
  | (with_reducible refine nv_10 ?_)
  | (with_reducible refine av_10 ?_)
  | (with_reducible refine tv_11 ?_)
  | (with_reducible refine nv_11 ?_)
  | (with_reducible refine av_11 ?_)
  | (with_reducible refine tv_12 ?_)
  | (with_reducible refine nv_12 ?_)
  | (with_reducible refine av_12 ?_)
  | (with_reducible refine tv_13 ?_)
  | (with_reducible refine nv_13 ?_)
  | (with_reducible refine av_13 ?_)
  | (with_reducible refine tv_14 ?_)
  | (with_reducible refine nv_14 ?_)
  | (with_reducible refine av_14 ?_)
  | (with_reducible refine tv_15 ?_)
  | (with_reducible refine nv_15 ?_)
  | (with_reducible refine av_15 ?_)
  | (with_reducible refine tv_16 ?_)
  | (with_reducible refine nv_16 ?_)
  | (with_reducible refine av_16 ?_)
  | (with_reducible refine tv_17 ?_)
  | (with_reducible refine nv_17 ?_)
  | (with_reducible refine av_17 ?_)
  | (with_reducible refine tv_18 ?_)
  | (with_reducible refine nv_18 ?_)
  | (with_reducible refine av_18 ?_)
  | (with_reducible refine tv_19 ?_)
  | (with_reducible refine nv_19 ?_)
  | (with_reducible refine av_19 ?_)
  | (with_reducible refine tv_20 ?_)
  | (with_reducible refine nv_20 ?_)
  | (with_reducible refine av_20 ?_)
  | (with_reducible refine tv_21 ?_)
  | (with_reducible refine nv_21 ?_)
  | (with_reducible refine av_21 ?_)
  | (with_reducible refine tv_22 ?_)
  | (with_reducible refine nv_22 ?_)
  | (with_reducible refine av_22 ?_)
  | (with_reducible refine tv_23 ?_)
  | (with_reducible refine nv_23 ?_)
  | (with_reducible refine av_23 ?_)
  | (with_reducible refine tv_24 ?_)
  | (with_reducible refine nv_24 ?_)
  | (with_reducible refine av_24 ?_)
  | (with_reducible refine tv_25 ?_)
  | (with_reducible refine nv_25 ?_)
  | (with_reducible refine av_25 ?_)
  | (with_reducible refine ⟨_, rfl, ⟨_, SqL.of (by assumption)⟩, ?_⟩)
  | (with_reducible refine ⟨_, rfl, (by omega), (by omega), ?_⟩)
  | (with_reducible refine ⟨w_tyL (by assumption), ?_⟩)
  | (with_reducible refine w_isiII ?_)
  | (with_reducible refine w_isiIB ?_)
  | (with_reducible refine w_isiBB ?_)
  | (with_reducible refine w_isiBI ?_)
  | (with_reducible refine w_isiNL ?_)
  | (with_reducible refine w_isiLL (by assumption) ?_)
  | (with_reducible refine v_sl ?_)
  | (with_reducible refine w_nff ?_)
  | (with_reducible refine w_ntt ?_)
  | (with_reducible refine v_chain ?_)
  | (with_reducible refine v_andV ?_)
  | (with_reducible refine v_orV ?_)
  | (with_reducible refine v_chain3 ?_)
  | (with_reducible refine w_min2 ?_)
  | (with_reducible refine v_lstRg ?_)
  | (with_reducible refine w_in (by assumption) ?_)
  | (with_reducible refine w_nin (by assumption) ?_)
  | (with_reducible refine v_notV ?_)
  | (with_reducible refine v_noP ?_)
  | (with_reducible refine v_part ?_)
  | (with_reducible refine v_fld ?_)
  | (with_reducible refine v_sfld ?_)
  | (with_reducible refine ⟨_, (rfl : V.bl _ = V.bl _), ?_⟩)
  | (with_reducible refine ⟨_, (rfl : V.ref _ = V.ref _), ?_⟩)
  | (with_reducible refine ⟨_, (rfl : [V.int _] = [V.int _]), ?_⟩)
  | (with_reducible refine ⟨_, (rfl : V.int _ = V.int _), ?_⟩)
  | (with_reducible refine ⟨⟨_, SqL.of (by assumption)⟩, ?_⟩)
  | (with_reducible refine ⟨(by (first | omega | (rw [lenV]; omega)) : -(2 ^ 62) ≤ _), (by first | omega | (rw [lenV]; omega)), ?_⟩)
  | (with_reducible refine v_meth ?_)
  | (with_reducible refine v_make ?_)
  | (with_reducible refine w_neBB ?_)
  | (with_reducible refine w_eqBB ?_)
  | (with_reducible refine w_isiRI (by assumption) ?_)
  ))
section
variable {Z : Ctx} {vs : List V} {H H' : Hp} {Q : VK} {E : XK}
def sp_law (Z : Ctx) : Sp := fun vs H Q _ => ∃ p0, ∃ r : Row, vs = [.ref p0] ∧ SqL Z.K H p0 (r.map V.int) ∧ r.length ≤ 1000 ∧ ∀ H', Q (.bl true) H'
abbrev r_law (Z : Ctx) : TS := (tSeq (tAsg (tCall (sp_law_purse Z) [] E0 (tCons (tVar 0) (tCons (tC (.int 0)) tNil))) (gName 1)) (tSeq (tAsg (tOp rAddI (tC (.int 1)) (tCall (sp_law_draw Z) [] E0 (tCons (tVar 1) (tCons (tC (.int 5)) tNil)))) (gName 2)) (tSeq (tAsg (tOp rAddI (tC (.int 2)) (tCall (sp_law_draw Z) [] E0 (tCons (tVar 1) (tCons (tC (.int 2)) tNil)))) (gName 3)) (tSeq (tAsg (tCall (sp_law_lines Z) [] E0 (tCons (tVar 1) (tCons (tVar 2) (tCons (tVar 3) (tCons (tCall (sp_law_draw Z) [] E0 (tCons (tVar 1) (tCons (tC (.int 5)) tNil))) (tCons (tC (.int 1)) tNil)))))) (gName 4)) (tSeq (tAsg (tLst (tCons (tVar 2) (tCons (tVar 3) (tCons (tOp rRep (tLst (tCons (tC (.int 0)) tNil)) (tVar 2)) (tCons (tVar 4) (tCons (tLst tNil) (tCons (tLst tNil) tNil))))))) (gName 5)) (tSeq (tAsg (tLst tNil) (gName 6)) (tSeq (tFor (iList Z.K (tVar 4)) (gName 7) (tSeq (tAsg (tOp rSubI (tCall (sp_law_draw Z) [] E0 (tCons (tVar 1) (tCons (tC (.int 5)) tNil))) (tC (.int 3))) (gName 8)) (tDrop (tBM Z.K "list" rAppend (tVar 6) (tCons (tTup (tCons (tVar 8) (tCons (tOp rAddI (tVar 8) (tCall (sp_law_draw Z) [] E0 (tCons (tVar 1) (tCons (tC (.int 4)) tNil)))) tNil))) tNil))))) (tSeq (tAsg (tCall (sp_law_all_sums Z) [] E0 (tCons (tVar 6) tNil)) (gName 9)) (tSeq (tAsg (tLc (iList Z.K (tVar 9)) (gName 11) tYes (tCall (sp_law_ledger Z) [] E0 (tCons (tVar 5) (tCons (tVar 11) tNil))) [11]) (gName 10)) (tSeq (tAsg (tCall (sp_law_purse Z) [] E0 (tCons (tVar 0) (tCons (tC (.int 1)) tNil))) (gName 1)) (tSeq (tFor (iRng1 (tCons (tC (.int 3)) tNil)) (gName 12) (tSeq (tAsg (tCall (sp_law_blocks Z) [] E0 (tCons (tVar 1) (tCons (tVar 2) (tCons (tOp rAddI (tC (.int 1)) (tCall (sp_law_draw Z) [] E0 (tCons (tVar 1) (tCons (tC (.int 3)) tNil)))) tNil)))) (gName 13)) (tSeq (tAsg (tCall (sp_law_whole_blocks Z) [] E0 (tCons (tVar 2) (tCons (tVar 13) tNil))) (gName 14)) (tSeq (tAsg (tCall (sp_law_group Z) [] E0 (tCons (tVar 1) (tCons (tVar 14) tNil))) (gName 15)) (tSeq (tAsg (tCall (sp_law_asked_totals Z) [] E0 (tCons (tVar 1) (tCons (tVar 5) (tCons (tVar 13) (tCons (tVar 9) tNil))))) (gName 16)) (tIfS (tTest (tOp (rNeD Z.K) (tVar 15) (tLst tNil))) (tSeq (tAsg (tOp rCat (tVar 16) (tLst (tCons (tUn uNegI (tCB (rSum Z.K) (tCons (tVar 16) tNil))) tNil))) (gName 17)) (tSeq (tAsg (tLst (tCons (tCB (rLstG Z.K) (tCons (tVar 16) tNil)) (tCons (tCB (rLstG Z.K) (tCons (tVar 15) tNil)) (tCons (tLc (iList Z.K (tVar 13)) (gName 19) tYes (tCB (rLstG Z.K) (tCons (tVar 19) tNil)) [19]) tNil)))) (gName 18)) (tSeq (tAsg (tCall (sp_ranges_of Z) [] E0 (tCons (tCall (sp_law_plan Z) [] E0 (tCons (tVar 5) tNil)) (tCons (tCB (rLstG Z.K) (tCons (tVar 6) tNil)) (tCons (tOp (rIxG Z.K) (tVar 18) (tC (.int 2))) (tCons (tOp (rIxG Z.K) (tVar 18) (tC (.int 0))) (tCons (tOp (rIxG Z.K) (tVar 18) (tC (.int 1))) tNil)))))) (gName 20)) (tSeq (tIfS (tOr (tTest (tOp (rNeD Z.K) (tVar 18) (tLst (tCons (tVar 16) (tCons (tVar 15) (tCons (tVar 13) tNil)))))) (tNot (tB (tCB (rIsi Z.K) (tCons (tVar 20) (tCons (tC (.ty "tuple")) tNil)))))) (tRet (tC (.bl false))) tNext) (tSeq (tAsg (tLc (iList Z.K (tVar 10)) (gName 7) (tTest (tOp (rEqD Z.K) (tLc (iList Z.K (tVar 13)) (gName 19) tYes (tCall (sp_law_total Z) [] E0 (tCons (tVar 7) (tCons (tVar 19) tNil))) [19]) (tVar 16))) (tVar 7) [7]) (gName 21)) (tSeq (tAsg (tCB (rSortedI Z.K) (tCons (tLc (iList Z.K (tVar 21)) (gName 7) tYes (tCall (sp_law_total Z) [] E0 (tCons (tVar 7) (tCons (tVar 15) tNil))) [7]) tNil)) (gName 22)) (tIfS (tTest (tOp (rEqD Z.K) (tVar 22) (tLst tNil))) (tIfS (tNot (tB (tCall (sp_law_never Z) [] E0 (tCons (tVar 5) (tCons (tVar 6) (tCons (tVar 14) (tCons (tVar 17) (tCons (tVar 20) tNil)))))))) (tRet (tC (.bl false))) tNext) (tIfS (tOr (tTest (tOp rNe (tOp (rIxGT Z.K) (tVar 20) (tC (.int 0))) (tC (.str "from")))) (tOr (tTest (tOp rNe (tCB (rLenG Z.K) (tCons (tVar 20) tNil)) (tC (.int 5)))) (tOr (tTest (tOp rNe (tOp (rIxGT Z.K) (tVar 20) (tC (.int 1))) (tOp (rIxG Z.K) (tVar 22) (tC (.int 0))))) (tTest (tOp rNe (tOp (rIxGT Z.K) (tVar 20) (tC (.int 2))) (tOp (rIxL Z.K) (tVar 22) (tUn uNegI (tC (.int 1))))))))) (tRet (tC (.bl false))) (tIfS (tTest (tOp (rNeD Z.K) (tLc (iRng2 (tCons (tOp (rIxG Z.K) (tVar 22) (tC (.int 0))) (tCons (tOp rAddI (tOp (rIxL Z.K) (tVar 22) (tUn uNegI (tC (.int 1)))) (tC (.int 1))) tNil))) (gName 23) (tTest (tOp (rIn Z.K true) (tVar 23) (tVar 22))) (tVar 23) [23]) (tLst tNil))) (tRet (tC (.bl false))) (tIfS (tNot (tB (tCall (sp_law_ends_shown Z) [] E0 (tCons (tVar 5) (tCons (tVar 6) (tCons (tVar 14) (tCons (tVar 17) (tCons (tVar 15) (tCons (tVar 20) tNil))))))))) (tRet (tC (.bl false))) tNext)))))))))) tNext)))))) (tRet (tC (.bl true))))))))))))))
theorem ln_law : sp_law Z vs H Q E → vs.length = 1 := by rintro ⟨_, _, rfl, _⟩; rfl
abbrev nm_law : List Str := ["script", "purse", "books", "moments", "lines", "world", "limits", "row", "least", "sums", "ledgers", "one", "turn", "blocks", "whole", "group", "totals", "full", "given", "block", "told", "fit", "found", "number"]
theorem rd_law (h : sp_law Z vs H Q E) : r_law Z (ends Q) (L2.start nm_law vs) H := by
  obtain ⟨p0, r, rfl, hs, hl, k⟩ := h
  show r_law Z (ends Q) [some (.ref p0), none, none, none, none, none, none, none, none, none, none, none, none, none, none, none, none, none, none, none, none, none, none, none] H
  unfold r_law ends
  walk_at "rd"
  refine ⟨p0, 0, 0, r, rfl, rfl, hs, hl, fun p H1 s1 n1 pu1 => ?_⟩
  walk_at "rd"
  refine ⟨p, _, rfl, pu1, by decide, fun z H2 c2 p2 l1 l2 => ?_⟩
  obtain ⟨w, hw⟩ := Int.eq_ofNat_of_zero_le (show 0 ≤ 1 + z by omega)
  refine w_I0 ?_
  rw [hw]
  walk_at "rd"
  refine ⟨p, _, rfl, p2, by decide, fun z3 H3 c3 p3 l3 l4 => ?_⟩
  obtain ⟨m, hm⟩ := Int.eq_ofNat_of_zero_le (show 0 ≤ 2 + z3 by omega)
  refine w_I0 ?_
  rw [hm]
  walk_at "rd"
  refine ⟨p, _, rfl, p3, by decide, fun z4 H4 c4 p4 l5 l6 => ?_⟩
  obtain ⟨nl, rfl⟩ := Int.eq_ofNat_of_zero_le l5
  walk_at "rd"
  refine ⟨p, _, w, m, nl, rfl, rfl, p4, by omega, by omega, by omega, by omega, fun D5 x5 L H5 c5 p5 n5 e5 a5 lenL hL => ?_⟩
  have nD5 := p4.ne (H0 := H4) n5
  have rL : rep (off H5 fun a => a = p) (.ref D5) L := ⟨D5, x5, rfl, off_in nD5 e5, all2_mono (off_less fun a z => .inl z) a5⟩
  have c05 := (c2.trans c3).trans (c4.trans c5)
  have hL4 : L.length ≤ 4 := by omega
  have xl5 := a5.len
  have ok : PlanOk w m (zr w) L [] [] := ⟨by omega, by omega, by omega, by omega, by simp [zr], fun x hx => by have := List.eq_of_mem_replicate hx; omega, by omega, by simp, by simp, fun x hx => (hL x hx).ok, fun x hx => absurd hx (by simp), fun x hx => absurd hx (by simp)⟩
  have hLb := led_wb hL
  clear a5
  walk_at "rd"
  refine ⟨by decide, fun q1 n6 => ?_⟩
  have t1 := same_new (o := .lst [V.int 0]) n6
  have d1 : (upd H5 q1 (.lst [V.int 0])) q1 = some (.lst [V.int 0]) := upd_same
  generalize upd H5 q1 (.lst [V.int 0]) = H6 at t1 d1
  walk_at "rd"
  refine w_rep d1 (by omega) fun q2 n7 => ?_
  have t2 := same_new (o := .lst ((List.replicate w (0 : Int)).map V.int)) n7
  have d2 : (upd H6 q2 (.lst ((List.replicate w (0 : Int)).map V.int))) q2 = some (.lst ((zr w).map V.int)) := upd_same
  generalize upd H6 q2 (.lst ((List.replicate w (0 : Int)).map V.int)) = H7 at t2 d2
  walk_at "rd"
  refine ⟨by decide, fun q3 n8 => ?_⟩
  have t3 := same_new (o := .lst []) n8
  have d3 : (upd H7 q3 (.lst [])) q3 = some (.lst []) := upd_same
  generalize upd H7 q3 (.lst []) = H8 at t3 d3
  walk_at "rd"
  refine ⟨by decide, fun q4 n9 => ?_⟩
  have t4 := same_new (o := .lst []) n9
  have d4 : (upd H8 q4 (.lst [])) q4 = some (.lst []) := upd_same
  generalize upd H8 q4 (.lst []) = H9 at t4 d4
  walk_at "rd"
  refine ⟨small _ (by simp), fun wq n10 => ?_⟩
  have t5 := same_new (o := .lst [.int (w : Int), .int (m : Int), .ref q2, .ref D5, .ref q3, .ref q4]) n10
  have d5 : (upd H9 wq (.lst [.int (w : Int), .int (m : Int), .ref q2, .ref D5, .ref q3, .ref q4])) wq = some (.lst [.int (w : Int), .int (m : Int), .ref q2, .ref D5, .ref q3, .ref q4]) := upd_same
  generalize upd H9 wq (.lst [.int (w : Int), .int (m : Int), .ref q2, .ref D5, .ref q3, .ref q4]) = HA at t5 d5
  have t15 := t1.trans (t2.trans (t3.trans (t4.trans t5)))
  have pA := p5.same t15
  have pne : ∀ {q : Addr} {Hx : Hp}, PurseAt Hx p → Hx q = none → q ≠ p := fun {q Hx} h n => h.ne (H0 := Hx) n
  have WA : WorldAt (off HA fun a => a = p) (.ref wq) w m L := ⟨wq, q2, D5, q3, q4, rfl, off_in (pne (p5.same (t1.trans (t2.trans (t3.trans t4)))) n10) d5,
    off_in (pne (p5.same t1) n7) ((t3.trans (t4.trans t5)) _ _ d2), Rep.mono (off_mono t15) rL, off_in (pne (p5.same (t1.trans t2)) n8) ((t4.trans t5) _ _ d3), off_in (pne (p5.same (t1.trans (t2.trans t3))) n9) (t5 _ _ d4)⟩
  have e5A := t15 _ _ e5
  have c0A : Chg p H1 HA := c05.trans (.of t15)
  clear n6 t1 d1 n7 t2 d2 n8 t3 d3 n9 t4 d4 n10 t5 d5 t15 rL
  walk_at "rd"
  refine ⟨by decide, fun lq nlq => ?_⟩
  have nlp := pA.ne (H0 := HA) nlq
  have nlD : D5 ≠ lq := fun z => by rw [z, nlq] at e5A; cases e5A
  have e5B := (same_new (o := .lst []) nlq) _ _ e5A
  walk_at "rd"
  refine forL (xs := x5) (fun i σ H' => ∃ lx lims e7 e8, σ = [some (.ref p0), some (.ref p), some (.int (w : Int)), some (.int (m : Int)), some (.ref D5), some (.ref wq), some (.ref lq), e7, e8, none, none, none, none, none, none, none, none, none, none, none, none, none, none, none] ∧
    Chg p HA H' ∧ PurseAt H' p ∧ H' lq = some (.lst lx) ∧ All2 (rep (off H' (wth (fun a => a = p) lq))) lx (lims : List (Int × Int)) ∧ lims.length = i ∧ ∀ c ∈ lims, -3 ≤ c.1 ∧ c.1 ≤ c.2 ∧ c.2 - c.1 ≤ 3 ∧ c.2 ≤ 4) ⟨[], [], _, _, rfl, (Chg.refl HA).mut nlq, pA.upd nlp, upd_same, trivial, rfl, fun c hc => absurd hc (by simp)⟩ (fun i σ H' _ ⟨_, _, _, _, _, c, _⟩ => SqL.of (c _ _ nD5 e5A)) ?_ ?_
  · rintro i x σ H' hi ⟨lx, lims, e7, e8, rfl, c, pu, hlq, al, ll, lb⟩
    have hi2 := (List.getElem?_eq_some_iff.mp hi).1
    have lxl := al.len
    show tSeq _ _ _ [some (.ref p0), some (.ref p), some (.int (w : Int)), some (.int (m : Int)), some (.ref D5), some (.ref wq), some (.ref lq), some x, e8, none, none, none, none, none, none, none, none, none, none, none, none, none, none, none] H'
    walk_at "rd"
    refine ⟨p, _, rfl, pu, by decide, fun z HB cB pB b1 b2 => ?_⟩
    have hlB := cB _ _ nlp hlq
    walk_at "rd"
    refine ⟨p, _, rfl, pB, by decide, fun y HC cC pC b3 b4 => ?_⟩
    have hlC := cC _ _ nlp hlB
    walk_at "rd"
    refine ⟨small _ (by simp), fun t nt => ?_⟩
    have s3 := same_new (o := .tup [V.int (z - 3), .int (z - 3 + y)]) nt
    have g3 : (upd HC t (.tup [V.int (z - 3), .int (z - 3 + y)])) t = some (.tup [V.int (z - 3), .int (z - 3 + y)]) := upd_same
    generalize upd HC t (.tup [V.int (z - 3), .int (z - 3 + y)]) = HD at s3 g3
    have hlD := s3 _ _ hlC
    have pD := pC.same s3
    have cD : Chg p H' HD := (cB.trans cC).trans (.of s3)
    have nt' : H' t = none := (cB.trans cC).fresh pC nt
    walk_at "rd"
    refine w_app hlD (by omega) ?_
    have out : ¬ wth (fun a => a = p) lq t := fun z => by
      rcases z with z | z
      · exact pu.ne (H0 := H') nt' z
      · rw [z, hlq] at nt'; cases nt'
    refine ⟨_, lims ++ [(z - 3, z - 3 + y)], _, _, rfl, (c.trans cD).mut nlq, pD.upd nlp, upd_same, ?_, by rw [List.length_append, ll]; rfl, fun c hc => ?_⟩
    · rw [off_upd wth_l]
      exact (all2_mono (cD.off (M := wth (fun a => a = p) lq) (.inl rfl)) al).snoc ⟨t, _, _, rfl, off_in out g3, rfl, rfl⟩
    · rcases List.mem_append.mp hc with q | q
      · exact lb c q
      · rw [List.mem_singleton.mp q]
        show -3 ≤ z - 3 ∧ z - 3 ≤ z - 3 + y ∧ z - 3 + y - (z - 3) ≤ 3 ∧ z - 3 + y ≤ 4
        omega
  rintro σ HB ⟨lx, lims, e7, e8, rfl, cB, pB, hlB, alB, ll, lb⟩
  rw [xl5] at ll
  have rl : rep (off HB fun a => a = p) (.ref lq) lims := ⟨lq, lx, rfl, off_in nlp hlB, all2_mono (off_less fun a z => .inl z) alB⟩
  obtain ⟨G, W⟩ := web_of ll hL fun c hc => by have := lb c hc; omega
  have WB := WA.mono (cB.off (M := fun a => a = p) rfl)
  have lll : lims.length ≤ 4 := by omega
  walk_at "rd"
  refine ⟨.ref lq, lims, rfl, Rep.mono off_same rl, by omega, fun c hc => by have := lb c hc; omega, fun sv HC sC rS => ?_⟩
  obtain ⟨asz, arow⟩ := W.sums
  have sl := (allA_len (lims := lims) (fun c hc => (lb c hc).2.2.1) lims.length (Nat.le_refl _)).1
  rw [List.take_length] at sl
  have sl5 : (allA lims).length ≤ 1000 := by
    have : 4 ^ lims.length ≤ 4 ^ 4 := Nat.pow_le_pow_right (by decide) lll
    omega
  obtain ⟨sq, sx, rfl, hsq, sa⟩ := rS
  have sxl := sa.len
  walk_at "rd"
  refine lcLT (β := Row) (xs := sx) (fun R h => by walk_at "rd"; exact h) (fun _ => False) (fun i => ledF w L ((allA lims).getD i []) L.length) (SqL.of hsq) (by omega) (fun _ h => h.elim) (fun _ => rfl) (fun i x H1 M1 hi s1 _ dm R k1 => ?_) ?_
  · have hi2 := (List.getElem?_eq_some_iff.mp hi).1
    obtain ⟨qa, g1, g2⟩ := mat_at sa (i := i) (by omega)
    rw [g1] at hi
    cases hi
    have g2 := s1 _ _ g2
    obtain ⟨r1, r2⟩ := arow _ (getD_mem (m := allA lims) (i := i) (by omega))
    show tCall _ _ _ _ [some (.ref p0), some (.ref p), some (.int (w : Int)), some (.int (m : Int)), some (.ref D5), some (.ref wq), some (.ref lq), e7, e8, some (.ref sq), none, some (.ref qa), none, none, none, none, none, none, none, none, none, none, none, none] H1 R
    walk_at "rd"
    exact ⟨.ref wq, .ref qa, w, m, L, _, rfl, (WB.mono off_same).mono (sC.trans s1), rep_row_of g2, r1, by omega, by omega, hLb, fun qr H2 s2 n2 e2 => k1 _ _ s2 (rep_row_of (off_in (fun z => dm qr z n2) e2))⟩
  rw [map_mat (allA lims) (fun X => ledF w L X L.length) sxl]
  intro gq gx HD sD nD eD aD
  walk_at "rd"
  have c0D : Chg p H HD := (Chg.of s1).trans ((c0A.trans cB).trans (.of (sC.trans sD)))
  refine ⟨p0, 1, 1, r, rfl, rfl, sql_chg c0D n1 hs, hl, fun p2 HE sE nE puE => ?_⟩
  have sBD := sC.trans sD
  have so : Same (off HB fun a => a = p) (off HE fun a => a = p2) := (off_same.trans sBD).trans (same_off sE nE)
  have base : Hd1 HE p2 (.ref wq) (.ref lq) (.ref sq) (.ref gq) w m L lims := ⟨puE, WB.mono so, Rep.mono so rl, Rep.mono (sD.trans (same_off sE nE)) (show rep HC (.ref sq) (allA lims) from ⟨sq, sx, rfl, hsq, sa⟩), Rep.mono (same_off sE nE) (show rep HD (.ref gq) _ from ⟨gq, gx, rfl, eD, all2_mono off_same aD⟩)⟩
  clear so sBD sE nE c0D aD eD nD sD sa hsq rl WB alB hlB pB cB WA sC e5A e5B nlp nlD nlq
  walk_at "rd"
  refine forR (n := 3) (fun i σ H' => ∃ e7 e8 e11 e12 e13 e14 e15 e16 e17 e18 e19 e20 e21 e22 e23, σ = [some (.ref p0), some (.ref p2), some (.int (w : Int)), some (.int (m : Int)), some (.ref D5), some (.ref wq), some (.ref lq), e7, e8, some (.ref sq), some (.ref gq), e11, e12, e13, e14, e15, e16, e17, e18, e19, e20, e21, e22, e23] ∧ Hd1 H' p2 (.ref wq) (.ref lq) (.ref sq) (.ref gq) w m L lims) ⟨_, _, _, _, _, _, _, _, _, _, _, _, _, _, _, rfl, base⟩ ?_ ?_
  rotate_left
  · rintro σ H' ⟨e7, e8, e11, e12, e13, e14, e15, e16, e17, e18, e19, e20, e21, e22, e23, rfl, hd⟩
    walk_at "rd"
    exact k _
  rintro i0 σ HF hi ⟨e7, e8, e11, e12, e13, e14, e15, e16, e17, e18, e19, e20, e21, e22, e23, rfl, hd⟩
  clear base puE
  show tSeq _ _ _ [some (.ref p0), some (.ref p2), some (.int (w : Int)), some (.int (m : Int)), some (.ref D5), some (.ref wq), some (.ref lq), e7, e8, some (.ref sq), some (.ref gq), e11, some (.int (i0 : Int)), e13, e14, e15, e16, e17, e18, e19, e20, e21, e22, e23] HF
  walk_at "rd"
  have pu := hd.pu
  refine ⟨p2, _, rfl, pu, by decide, fun z HG cG pG b1 b2 => ?_⟩
  obtain ⟨n, hn⟩ := Int.eq_ofNat_of_zero_le (show 0 ≤ 1 + z by omega)
  refine w_I0 ?_
  rw [hn]
  walk_at "rd"
  refine ⟨p2, _, w, n, rfl, rfl, pG, by omega, by omega, fun bq bx B HI cI pI nI eI aI hB => ?_⟩
  have nbp := pG.ne (H0 := HG) nI
  have rB : rep (off HI fun a => a = p2) (.ref bq) B := ⟨bq, bx, rfl, off_in nbp eI, all2_mono (off_less fun a z => .inl z) aI⟩
  have hBl := hB.len
  have wl := whole_len (w := w) (B := B)
  walk_at "rd"
  refine ⟨.ref bq, w, B, fun a => a = p2, rfl, fun a h => h ▸ pI.dom, rB, by omega, by omega, fun wv HJ sJ rW => ?_⟩
  have rB := Rep.mono (off_mono (M := fun a => a = p2) sJ) rB
  have pJ := pI.same sJ
  walk_at "rd"
  refine ⟨p2, wv, w, n, B, rfl, pJ, rW, hB, by omega, by omega, fun gq2 g HM cM pM nM eM hg => ?_⟩
  have so1 := cM.off (M := fun a => a = p2) rfl
  have rW := Rep.mono so1 rW
  have rB := Rep.mono so1 rB
  have ngp := pJ.ne (H0 := HJ) nM
  have rg : rep (off HM fun a => a = p2) (.ref gq2) g := rep_row_of (off_in ngp eM)
  have cFM : Chg p2 HF HM := cG.trans (cI.trans ((Chg.of sJ).trans cM))
  have hdM := hd.chg cFM pM
  walk_at "rd"
  refine ⟨p2, .ref wq, .ref bq, .ref sq, w, m, n, L, B, allA lims, rfl, pM, hdM.fw, rB, hdM.fs, hB, by omega, by omega, hL4, hLb, asz, arow, fun tq tots HN cN pN nN eN tl tb => ?_⟩
  have so2 := cN.off (M := fun a => a = p2) rfl
  have rW := Rep.mono so2 rW
  have rB := Rep.mono so2 rB
  have rg := Rep.mono so2 rg
  have hdN := hdM.chg cN pN
  have ntp := pM.ne (H0 := HM) nN
  have rt : rep (off HN fun a => a = p2) (.ref tq) tots := rep_row_of (off_in ntp eN)
  clear so1 so2 hdM hd cFM cG cI cM cN pG pI pJ pM pu nI eI aI nM eM nN sJ
  have rW := Rep.mono off_same rW
  have rB := Rep.mono off_same rB
  have rg := Rep.mono off_same rg
  have rt := Rep.mono off_same rt
  have fin : ∀ {H2 : Hp}, Same HN H2 → Hd1 H2 p2 (.ref wq) (.ref lq) (.ref sq) (.ref gq) w m L lims := fun s => hdN.chg (.of s) (pN.same s)
  walk_at "rd"
  refine ⟨by decide, fun l0 n0 => ?_⟩
  have s0 := same_new (o := .lst []) n0
  have d0 : (upd HN l0 (.lst [])) l0 = some (.lst []) := upd_same
  generalize upd HN l0 (.lst []) = HO at s0 d0
  have rg := Rep.mono s0 rg
  have rt := Rep.mono s0 rt
  have rW := Rep.mono s0 rW
  have rB := Rep.mono s0 rB
  have hdO := fin s0
  clear fin
  refine w_neD (α := Row) (a := g) (b := []) rg (rep_row_of d0) ?_
  walk_at "rd"
  refine w_ite (fun hgn => ?_) (fun h => ?_)
  rotate_left
  · walk_at "rd"
    exact ⟨_, _, _, _, _, _, _, _, _, _, _, _, _, _, _, rfl, hdO⟩
  have hg := hg.resolve_left hgn
  clear d0 s0 n0 hdN pN nbp ngp ntp eN
  obtain ⟨_, e, eg⟩ := rep_row.mp rg
  cases e
  obtain ⟨_, e, et⟩ := rep_row.mp rt
  cases e
  walk_at "rd"
  refine w_sum et ?_
  walk_at "rd"
  refine ⟨small _ (by simp), fun c1 n1' => ?_⟩
  have t1 := same_new (o := .lst [V.int (-tots.sum)]) n1'
  have d1 : (upd HO c1 (.lst [V.int (-tots.sum)])) c1 = some (.lst [V.int (-tots.sum)]) := upd_same
  generalize upd HO c1 (.lst [V.int (-tots.sum)]) = HP at t1 d1
  refine w_cat (t1 _ _ et) d1 (by rw [lenV]; simp; omega) fun fq n2' => ?_
  have t2 := same_new (o := .lst (tots.map V.int ++ [V.int (-tots.sum)])) n2'
  have d2 : (upd HP fq (.lst (tots.map V.int ++ [V.int (-tots.sum)]))) fq = some (.lst ((sumsOf tots).map V.int)) := by unfold sumsOf; rw [List.map_append]; exact upd_same
  generalize upd HP fq (.lst (tots.map V.int ++ [V.int (-tots.sum)])) = HR at t2 d2
  have s2 := t1.trans t2
  clear d1 n1' n2' t1 t2
  walk_at "rd"
  refine w_lst (s2 _ _ et) fun a1 n1' => ?_
  have t1 := same_new (o := .lst (tots.map V.int)) n1'
  have f1 : (upd HR a1 (.lst (tots.map V.int))) a1 = some (.lst (tots.map V.int)) := upd_same
  generalize upd HR a1 (.lst (tots.map V.int)) = HS at t1 f1
  have s3 := s2.trans t1
  walk_at "rd"
  refine w_lst (s3 _ _ eg) fun a2 n2' => ?_
  have t2 := same_new (o := .lst (g.map V.int)) n2'
  have f2 : (upd HS a2 (.lst (g.map V.int))) a2 = some (.lst (g.map V.int)) := upd_same
  generalize upd HS a2 (.lst (g.map V.int)) = HT' at t2 f2
  have s4 := s3.trans t2
  have rB4 := Rep.mono s4 rB
  obtain ⟨_, ux, e, eb, ab⟩ := rB4
  cases e
  walk_at "rd"
  refine lcCopyT (m := B) (fun R h => by walk_at "rd"; exact h) (fun _ => False) eb ab (by omega) (fun _ h => h.elim) (fun _ => rfl) (fun _ => rfl) fun a3 y3 HU t3 n3 f3 h3 => ?_
  have f3 : rep HU (.ref a3) B := ⟨a3, y3, rfl, f3, all2_mono off_same h3⟩
  have s5 := s4.trans t3
  walk_at "rd"
  refine ⟨small _ (by simp), fun vq nv => ?_⟩
  have t4 := same_new (o := .lst [V.ref a1, .ref a2, .ref a3]) nv
  have f4 : (upd HU vq (.lst [V.ref a1, .ref a2, .ref a3])) vq = some (.lst [V.ref a1, .ref a2, .ref a3]) := upd_same
  generalize upd HU vq (.lst [V.ref a1, .ref a2, .ref a3]) = HV at t4 f4
  have s6 := s5.trans t4
  have ff : (t2.trans (t3.trans t4)) = (t2.trans (t3.trans t4)) := rfl
  have f1 := (t2.trans (t3.trans t4)) _ _ f1
  have f2 := (t3.trans t4) _ _ f2
  have f3 := Rep.mono t4 f3
  have d2 := (t1.trans (t2.trans (t3.trans t4))) _ _ d2
  clear ff t1 t2 t3 t4 s2 s3 s4 s5 n1' n2' n3 nv h3 eb ab
  have wO := hdO.fw.mono off_same
  refine nv_18 ?_
  refine v_seq (v_asg (tail_post (fun x H' => ∃ t, x = .ref t ∧ Same HV H' ∧ ToldAt H' t w G B tots g) ?_ ?_))
  rotate_left
  · intro Q' hq
    walk_at "rd"
    refine ⟨.ref wq, w, m, L, rfl, wO.mono s6, ok, fun pq HW tW nW P => ?_⟩
    have P0 := (P (fun _ => False) (fun _ h => h.elim)).mono off_same
    have s7 := s6.trans tW
    obtain ⟨_, lx, e, el, al⟩ := Rep.mono (off_same.trans s7) hdO.fl
    cases e
    walk_at "rd"
    refine w_lst el fun cl nc => ?_
    have tc := same_new (o := .lst lx) nc
    have rcl : rep (upd HW cl (.lst lx)) (.ref cl) lims := ⟨cl, lx, rfl, upd_same, all2_mono tc al⟩
    generalize upd HW cl (.lst lx) = HX at tc rcl
    have f1 := (tW.trans tc) _ _ f1
    have f2 := (tW.trans tc) _ _ f2
    have f3 := Rep.mono (tW.trans tc) f3
    have f4 := (tW.trans tc) _ _ f4
    have P0 := P0.mono tc
    walk_at "rd"
    refine w_ixAt 2 2 rfl f4 rfl ?_
    walk_at "rd"
    refine w_ixAt 0 0 rfl f4 rfl ?_
    walk_at "rd"
    refine w_ixAt 1 1 rfl f4 rfl ?_
    walk_at "rd"
    refine ⟨.ref pq, .ref cl, .ref a3, .ref a1, .ref a2, w, m, n, zr w, L, [], [], lims, G, B, tots, g, rfl, ⟨P0, rcl, W, by omega, by have := W.l1; omega⟩, f3, rep_row_of f1, rep_row_of f2, hB, by omega, by omega, hg, tl, fun z hz => by have := tb z hz; omega, by simp [zr]; omega, fun i => at0_zr, fun num hf t H' s rn => hq _ _ ⟨t, rfl, (tW.trans tc).trans s, .inl ⟨num, hf, rn⟩⟩, fun hf lo ls hi hs e1 e2 t q1 q2 H' s g1 g2 g3 => hq _ _ ⟨t, rfl, (tW.trans tc).trans s, .inr ⟨hf, lo, ls, hi, hs, q1, q2, e1, e2, g1, g2, g3⟩⟩⟩
  rintro x HW ⟨t, rfl, tW, told⟩
  have f1 := tW _ _ f1
  have f2 := tW _ _ f2
  have f3 := Rep.mono tW f3
  have f4 := tW _ _ f4
  have d2 := tW _ _ d2
  have s7 := s6.trans tW
  clear s6 tW
  refine nv_20 ?_
  walk_at "rd"
  refine ⟨small _ (by simp), fun l1 nl1 => ?_⟩
  have t1 := same_new (o := .lst [V.ref tq, .ref gq2, .ref bq]) nl1
  have g1 : (upd HW l1 (.lst [V.ref tq, .ref gq2, .ref bq])) l1 = some (.lst [V.ref tq, .ref gq2, .ref bq]) := upd_same
  generalize upd HW l1 (.lst [V.ref tq, .ref gq2, .ref bq]) = HX at t1 g1
  have s8 := s7.trans t1
  refine w_neD (α := Trip) (a := ⟨tots, g, B⟩) (b := ⟨tots, g, B⟩) ⟨vq, _, _, _, rfl, t1 _ _ f4, rep_row_of (t1 _ _ f1), rep_row_of (t1 _ _ f2), Rep.mono t1 f3⟩ ⟨l1, _, _, _, rfl, g1, Rep.mono s8 rt, Rep.mono s8 rg, Rep.mono s8 rB⟩ ?_
  have told := told.mono t1
  have d2 := t1 _ _ d2
  have wO := wO.mono s8
  clear f1 f2 f3 f4 g1 t1 s7 nl1
  walk_at "rd"
  refine w_ite (fun h => absurd rfl h) (fun _ => ?_)
  obtain ⟨tx, etx⟩ := told.tup
  walk_at "rd"
  refine w_isiTup etx ?_
  walk_at "rd"
  clear etx
  -- fit
  obtain ⟨_, gx', e, egx, agx⟩ := Rep.mono (off_same.trans s8) hdO.fg
  cases e
  have gl := agx.len
  obtain ⟨_, ux, e, eb, ab⟩ := Rep.mono s8 rB
  cases e
  have ubl := ab.len
  have et8 := s8 _ _ et
  have eg8 := s8 _ _ eg
  have gwid : ∀ row ∈ ((allA lims).map fun X => ledF w L X L.length), row.length = w := fun row hr => by
    obtain ⟨X, _, rfl⟩ := List.mem_map.mp hr
    exact ledF_length _
  have gsz : ((allA lims).map fun X => ledF w L X L.length).length ≤ 1000 := by rw [List.length_map]; exact sl5
  have fdef : foundF w L lims B tots g = (((allA lims).map fun X => ledF w L X L.length).filter fun row => decide (B.map (Tot row) = tots)).map fun row => Tot row g := rfl
  have fbd : ∀ v ∈ foundF w L lims B tots g, -24000 ≤ v ∧ v ≤ 24000 := fun v hv => by
    obtain ⟨X, h1, h2⟩ := (found_mem W tl).mp hv
    have b1 := led_bd (w := w) (amts := X) (fits_bd W.bd h1.1) hLb L.length (Nat.le_refl _)
    have b2 := tot_bd b1 g
    have b3 := hg.len
    have b4 : g.length * (L.length * 1000) ≤ 6 * 4000 := Nat.mul_le_mul (by omega) (by omega)
    rw [h2] at b2
    omega
  have fmem : ∀ v, v ∈ foundF w L lims B tots g ↔ ∃ X, Brg w L G B tots X ∧ Tot (ledF w L X L.length) g = v := fun v => found_mem W tl
  generalize foundF w L lims B tots g = found at fdef fbd fmem
  generalize ((allA lims).map fun X => ledF w L X L.length) = LG at agx gl gwid gsz fdef
  refine lcLF (β := Row) (xs := gx') (fun R h => by walk_at "rd"; exact h) (fun _ => False) (fun i => decide (B.map (Tot (LG.getD i [])) = tots)) (fun i => LG.getD i []) (SqL.of egx) (by omega) (fun _ h => h.elim) (fun _ => rfl) (fun i x H1 hi s1 R1 k1 => ?_) (fun i x H1 M1 hi hf s1 so dm R1 k1 => ?_) ?_
  · have hi2 := (List.getElem?_eq_some_iff.mp hi).1
    obtain ⟨qr, h1, h2⟩ := mat_at agx (i := i) (by omega)
    rw [h1] at hi
    cases hi
    have lw := gwid _ (getD_mem (m := LG) (i := i) (by omega))
    have eb1 := s1 _ _ eb
    have ab1 := all2_mono s1 ab
    have h2 := s1 _ _ h2
    have et1 := s1 _ _ et8
    show tTest _ [some (.ref p0), some (.ref p2), some (.int (w : Int)), some (.int (m : Int)), some (.ref D5), some (.ref wq), some (.ref lq), some (.ref qr), e8, some (.ref sq), some (.ref gq), e11, some (.int (i0 : Int)), some (.ref bq), some wv, some (.ref gq2), some (.ref tq), some (.ref fq), some (.ref vq), e19, some (.ref t), e21, e22, e23] H1 R1
    walk_at "rd"
    refine lcLrT (xs := ux) (fun R h => by walk_at "rd"; exact h) (fun j => Tot (LG.getD i []) (B.getD j [])) (SqL.of eb1) (by omega) (fun _ => rfl) (fun j x H2 hj s2 R2 k2 => ?_) ?_
    · have hj2 := (List.getElem?_eq_some_iff.mp hj).1
      obtain ⟨qb, y1, y2⟩ := mat_at ab1 (i := j) (by omega)
      rw [y1] at hj
      cases hj
      have hb2 := hB.bl _ (getD_mem (i := j) (m := B) (by omega))
      show tCall _ _ _ _ [some (.ref p0), some (.ref p2), some (.int (w : Int)), some (.int (m : Int)), some (.ref D5), some (.ref wq), some (.ref lq), some (.ref qr), e8, some (.ref sq), some (.ref gq), e11, some (.int (i0 : Int)), some (.ref bq), some wv, some (.ref gq2), some (.ref tq), some (.ref fq), some (.ref vq), some (.ref qb), some (.ref t), e21, e22, e23] H2 R2
      walk_at "rd"
      exact ⟨.ref qr, .ref qb, LG.getD i [], B.getD j [], rfl, rep_row_of (s2 _ _ h2), rep_row_of (s2 _ _ y2), by omega, fun b hb => by have := blk_in hB (i := j) (by omega) b hb; omega, fun H4 s4 => k2 _ s4⟩
    rw [map_mat B (fun b => Tot (LG.getD i []) b) ubl]
    intro qt H2 s2 n2 e2
    walk_at "rd"
    refine w_eqD (α := Row) (rep_row_of e2) (rep_row_of (s2 _ _ et1)) ?_
    walk_at "rd"
    exact k1 _ s2
  · have hi2 := (List.getElem?_eq_some_iff.mp hi).1
    obtain ⟨qr, h1, h2⟩ := mat_at agx (i := i) (by omega)
    rw [h1] at hi
    cases hi
    show tVar 7 [some (.ref p0), some (.ref p2), some (.int (w : Int)), some (.int (m : Int)), some (.ref D5), some (.ref wq), some (.ref lq), some (.ref qr), e8, some (.ref sq), some (.ref gq), e11, some (.int (i0 : Int)), some (.ref bq), some wv, some (.ref gq2), some (.ref tq), some (.ref fq), some (.ref vq), e19, some (.ref t), e21, e22, e23] H1 R1
    walk_at "rd"
    exact k1 _ _ (.refl _) (rep_row_of (so _ _ (off_in (fun z => z) h2)))
  rw [filt_mat LG (fun row => decide (B.map (Tot row) = tots)) gl]
  intro qf fx H1 s1 nf ef af
  have s9 := s8.trans s1
  have told := told.mono s1
  have d2 := s1 _ _ d2
  have wO := wO.mono s1
  have eg9 := s1 _ _ eg8
  have af := all2_mono off_same af
  have fl := af.len
  have fsz : (LG.filter fun row => decide (B.map (Tot row) = tots)).length ≤ LG.length := List.length_filter_le _ _
  have fwid : ∀ row ∈ LG.filter (fun row => decide (B.map (Tot row) = tots)), row.length = w := fun row hr => gwid row (List.mem_filter.mp hr).1
  generalize (LG.filter fun row => decide (B.map (Tot row) = tots)) = FG at af fl fsz fwid fdef
  have hgl := hg.len
  walk_at "rd"
  refine lcLrT (xs := fx) (fun R h => by walk_at "rd"; exact h) (fun j => Tot (FG.getD j []) g) (SqL.of ef) (by omega) (fun _ => rfl) (fun j x H2 hj s2 R2 k2 => ?_) ?_
  · have hj2 := (List.getElem?_eq_some_iff.mp hj).1
    obtain ⟨qr, y1, y2⟩ := mat_at af (i := j) (by omega)
    rw [y1] at hj
    cases hj
    have lw := fwid _ (getD_mem (m := FG) (i := j) (by omega))
    show tCall _ _ _ _ [some (.ref p0), some (.ref p2), some (.int (w : Int)), some (.int (m : Int)), some (.ref D5), some (.ref wq), some (.ref lq), some (.ref qr), e8, some (.ref sq), some (.ref gq), e11, some (.int (i0 : Int)), some (.ref bq), some wv, some (.ref gq2), some (.ref tq), some (.ref fq), some (.ref vq), e19, some (.ref t), some (.ref qf), e22, e23] H2 R2
    walk_at "rd"
    exact ⟨.ref qr, .ref gq2, FG.getD j [], g, rfl, rep_row_of (s2 _ _ y2), rep_row_of (s2 _ _ eg9), by omega, fun b hb => by have := hg.inn b hb; omega, fun H4 s4 => k2 _ s4⟩
  rw [map_mat FG (fun row => Tot row g) fl, ← fdef]
  intro qt H2 s2 n2 e2
  walk_at "rd"
  refine w_sorted e2 fun fr qs pm srt nqs => ?_
  have s3 := same_new (o := .lst (fr.map V.int)) nqs
  have g3 : (upd H2 qs (.lst (fr.map V.int))) qs = some (.lst (fr.map V.int)) := upd_same
  generalize upd H2 qs (.lst (fr.map V.int)) = H3 at s3 g3
  have s10 := s9.trans (s2.trans s3)
  have told := told.mono (s2.trans s3)
  have d2 := (s2.trans s3) _ _ d2
  have wO := wO.mono (s2.trans s3)
  walk_at "rd"
  refine ⟨by decide, fun l2 nl2 => ?_⟩
  have s4 := same_new (o := .lst []) nl2
  have g4 : (upd H3 l2 (.lst [])) l2 = some (.lst []) := upd_same
  generalize upd H3 l2 (.lst []) = H4 at s4 g4
  have g34 := s4 _ _ g3
  have s11 := s10.trans s4
  have told := told.mono s4
  have d2 := s4 _ _ d2
  have wO := wO.mono s4
  refine w_eqD (α := Row) (a := fr) (b := []) (rep_row_of g34) (rep_row_of g4) ?_
  walk_at "rd"
  have fm : ∀ (v : Int), v ∈ fr ↔ v ∈ found := fun v => pm.mem_iff
  have hWg : Wg Z H4 (.ref wq) (.ref lq) w m L lims G := ⟨wO, Rep.mono (off_same.trans s11) hdO.fl, W, by omega, by have := W.l1; omega⟩
  have rW4 := Rep.mono s11 rW
  have rg4 := Rep.mono s11 rg
  have sl6 : (sumsOf tots).length = (wholeOf w B).length := by unfold sumsOf; rw [List.length_append, wl, tl]; rfl
  have wbl : ∀ b ∈ wholeOf w B, b.length ≤ 1000 := fun b hb => by have := whole_bl hB b hb; omega
  have fin : ∀ {H2 : Hp}, Same H4 H2 → Hd1 H2 p2 (.ref wq) (.ref lq) (.ref sq) (.ref gq) w m L lims := fun s => hdO.chg (.of (s11.trans s)) (hdO.pu.same (s11.trans s))
  refine w_ite (fun h0 => ?_) (fun h0 => ?_)
  · have told := told.resolve_right fun ⟨hf, _⟩ => by
      obtain ⟨X, hX⟩ := (fault_mt W hB tl).mp hf
      have := (fm _).mpr ((fmem _).mpr ⟨X, hX, rfl⟩)
      rw [h0] at this
      cases this
    obtain ⟨num, hf, rn⟩ := told
    walk_at "rd"
    refine ⟨.ref wq, .ref lq, wv, .ref fq, .ref t, w, m, L, lims, G, wholeOf w B, sumsOf tots, num, rfl, hWg, rW4, rep_row_of d2, by omega, sl6, wbl, hf, rn, fun H5 s5 => ?_⟩
    walk_at "rd"
    exact ⟨_, _, _, _, _, _, _, _, _, _, _, _, _, _, _, rfl, fin s5⟩
  · obtain ⟨v0, hv0⟩ := List.exists_mem_of_ne_nil fr h0
    obtain ⟨X0, hX0, _⟩ := (fmem _).mp ((fm _).mp hv0)
    have told := told.resolve_left fun ⟨num, hf, _⟩ => by
      have := (fault_mt W hB tl).mpr ⟨X0, hX0⟩
      rw [this] at hf
      cases hf
    obtain ⟨hf, lo, ls, hi', hs', z1, z2, hlo, hhi, h1, h2, h3⟩ := told
    have rng : ∀ v, v ∈ found ↔ lo ≤ v ∧ v ≤ hi' := fun v => (fmem v).trans (grp_ends W hB hg tl hX0 hlo hhi)
    obtain ⟨a0, a1, a2⟩ := srt_ends pm srt rng h0
    have b0 := fbd lo ((rng lo).mpr ⟨Int.le_refl _, a2⟩)
    have b1 := fbd hi' ((rng hi').mpr ⟨a2, Int.le_refl _⟩)
    have fpos := List.length_pos_iff.mpr h0
    have k0 := at0_get (r := fr) (i := 0) fpos
    have k1 := at0_get (r := fr) (i := fr.length - 1) (by omega)
    rw [a0] at k0
    rw [a1] at k1
    have k2 : (fr.map V.int).getLast? = some (.int hi') := by rw [List.getLast?_map, List.getLast?_eq_getElem?, k1]; rfl
    walk_at "rd"
    refine w_ixTat 0 0 rfl h1 rfl ?_
    walk_at "rd"
    refine w_neSame ?_
    walk_at "rd"
    refine w_lenT h1 ?_
    walk_at "rd"
    refine w_ite (fun h => absurd rfl h) (fun _ => ?_)
    walk_at "rd"
    refine w_ixTat 1 1 rfl h1 rfl ?_
    walk_at "rd"
    refine w_ixAt 0 0 rfl g34 (by rw [List.getElem?_map, k0]; rfl) ?_
    walk_at "rd"
    refine w_ite (fun h => absurd rfl h) (fun _ => ?_)
    walk_at "rd"
    refine w_ixTat 2 2 rfl h1 rfl ?_
    walk_at "rd"
    refine w_lastA g34 k2 ?_
    walk_at "rd"
    refine w_ite (fun h => absurd rfl h) (fun _ => ?_)
    walk_at "rd"
    refine lcRNo (lo := lo) (n := (hi' + 1 - lo).toNat) (fun R h => ?_) (by omega) (fun _ => rfl) (fun j H5 hj s5 R5 k5 => ?_) ?_
    · walk_at "rd"
      refine w_ixAt 0 0 rfl g34 (by rw [List.getElem?_map, k0]; rfl) ?_
      walk_at "rd"
      refine w_lastA g34 k2 ?_
      walk_at "rd"
      exact ⟨lo, hi' + 1, rfl, by omega, h⟩
    · have g5 := s5 _ _ g34
      show tTest _ [some (.ref p0), some (.ref p2), some (.int (w : Int)), some (.int (m : Int)), some (.ref D5), some (.ref wq), some (.ref lq), e7, e8, some (.ref sq), some (.ref gq), e11, some (.int (i0 : Int)), some (.ref bq), some wv, some (.ref gq2), some (.ref tq), some (.ref fq), some (.ref vq), e19, some (.ref t), some (.ref qf), some (.ref qs), some (.int (lo + (j : Int)))] H5 R5
      walk_at "rd"
      rw [decide_eq_true ((fm _).mpr ((rng (lo + (j : Int))).mpr ⟨by omega, by omega⟩))]
      exact k5 _ (.refl _)
    intro q5 H5 s5 n5 e5
    walk_at "rd"
    refine ⟨by decide, fun l6 n6 => ?_⟩
    have s6 := same_new (o := .lst []) n6
    have g6 : (upd H5 l6 (.lst [])) l6 = some (.lst []) := upd_same
    generalize upd H5 l6 (.lst []) = H6 at s6 g6
    have s46 := s5.trans s6
    refine w_neD (α := Row) (a := []) (b := []) (rep_row_of (s6 _ _ e5)) (rep_row_of g6) ?_
    walk_at "rd"
    refine w_ite (fun h => absurd rfl h) (fun _ => ?_)
    walk_at "rd"
    refine ⟨.ref wq, .ref lq, wv, .ref fq, .ref gq2, t, z1, z2, w, m, L, lims, G, wholeOf w B, sumsOf tots, g, lo, hi', ls, hs', rfl, hWg.mono s46, Rep.mono s46 rW4, rep_row_of (s46 _ _ d2), Rep.mono s46 rg4, by omega, sl6, wbl, hg.pos, by omega, hlo, hhi, s46 _ _ h1, s46 _ _ h2, s46 _ _ h3, fun H7 s7 => ?_⟩
    walk_at "rd"
    exact ⟨_, _, _, _, _, _, _, _, _, _, _, _, _, _, _, rfl, fin (s46.trans s7)⟩
end
end G
end
section
set_option Elab.async false
set_option linter.all false
set_option maxRecDepth 100000
set_option maxHeartbeats 4000000
namespace G
open PySem L2 PyProof.Rows
theorem fn_mk {P : Program} {w : World} {K : PySem.W.Frag} {mg : Str → Option Value} {base : Heap} {x : Str} {st : Stmt} {N ps : List Str} {k : Nat} {sp : Sp} {t : TS} {f : Addr} {fd : FuncData} (A : Fun K x x st f fd) (S : FnScope N ps (defScope st)) (len : ∀ vs H Q E, sp vs H Q E → vs.length = ps.length)
    (hw : ∀ (f : Addr) (cdv : Value) (A : Around) (outer : List Env) (s : Shared) (H : Hp) (E : XK), Room k (A.deeper (envOfC x (defScope st) s.heap.objs.size f cdv)) → PSs (cxOf CX0 P w K mg base N x (defScope st) f cdv A outer s H E).nox (defBody st) t)
    (hd : ∀ vs H Q E, sp vs H Q E → t { nx := fun _ H' => Q .non H', rt := Q } (start N vs) H) : FnOk P w K mg base CX0 (k + 1) f fd ps sp := A.ok S len fun cdv A outer s H vs Q E hr h => ⟨t, hw f cdv A outer s H E hr, hd vs H Q E h⟩
def top (i : Nat) : Stmt := PySem.Challenge.pw_closedright_k91_whole_ranges_against_all.main.body.getD i (.Pass ⟨0, 0, 0, 0⟩)
/-- what the text has written besides its defs -/
structure Txt (mg : Str → Option Value) where
  b_len : mg "len" = none
  b_int : mg "int" = none
  b_sum : mg "sum" = none
  b_abs : mg "abs" = none
  b_range : mg "range" = none
  b_list : mg "list" = none
  b_sorted : mg "sorted" = none
  b_isinstance : mg "isinstance" = none
  b_bool : mg "bool" = none
  b_tuple : mg "tuple" = none
  b_min : mg "min" = none
  t_NUMBERS : Tok
  g_NUMBERS : mg "NUMBERS" = some (.int 1000000 t_NUMBERS)
  t_AMOUNTS : Tok
  g_AMOUNTS : mg "AMOUNTS" = some (.int 1000000000000000000000000000000 t_AMOUNTS)
  t_BOOKS : Tok
  g_BOOKS : mg "BOOKS" = some (.int 9 t_BOOKS)
  t_MOMENTS : Tok
  g_MOMENTS : mg "MOMENTS" = some (.int 40 t_MOMENTS)
  t_LINES : Tok
  g_LINES : mg "LINES" = some (.int 24 t_LINES)
  t_DOORS : Tok
  g_DOORS : mg "DOORS" = some (.int 24 t_DOORS)
  t_LOOKS : Tok
  g_LOOKS : mg "LOOKS" = some (.int 60 t_LOOKS)
section
variable {P : Program} {w : World} {Z : Ctx} {mg : Str → Option Value} {base : Heap}
abbrev st_law_purse : Stmt := top 58
theorem sc_law_purse : FnScope ["script", "at", "cell", "one", "size"] ["script", "at"] (defScope st_law_purse) := ⟨rfl, rfl, rfl, by decide +kernel, rfl, by decide +kernel, by decide +kernel⟩
theorem ok_law_purse (T : Txt mg) (A : At Z.K mg "_law_purse" st_law_purse) : Cal P w Z.K mg base 2 "_law_purse" (sp_law_purse Z) :=
  cal_mk (k := 1) (t := r_law_purse Z) A sc_law_purse (fun _ _ _ _ => ln_law_purse) (fun _ _ _ _ _ _ us hl => match us, hl with | [_, _], _ => rfl) (fun f cdv A outer s H E hr => (pss_cons (ps_set (i := 2) sc_law_purse.nd rfl (.inl rfl) (pe_ifExp (pt_cmpR op_lt (pv 1) (pe_callB (id := "len") c_len (by rfl) T.b_len (by decide +kernel) (pa_cons (pv 0) pa_nil)) (nomark _)) (pe_callTy (T := "int") c_int (by rfl) T.b_int (by decide +kernel) (pa_cons (pe_ix x_ix (pv 0) (pv 1) (fun _ _ => rfl)) pa_nil)) (pe_op op_mulG pe_int (pe_callB (id := "sum") (cr_sum rfl) (by rfl) T.b_sum (by decide +kernel) (pa_cons (pe_lc (own := [("one", 3)]) (by rfl) sc_law_purse.nd (pi_list (pe_slice sl_list (pv 0) po_none (po_some pe_int))) (blkOk_by (own := [("one", 3)]) (N := nm_law_purse) (sc := defScope st_law_purse) (by decide +kernel)) (fun _ _ _ _ _ => (pg_name (i := 3) sc_law_purse.nd rfl (Or.inl rfl))) (fun _ _ _ _ _ => pts_nil) (fun _ _ _ _ _ => (pe_callTy (T := "int") c_int (by rfl) T.b_int (by decide +kernel) (pa_cons (pv 3) pa_nil)))) pa_nil))))) (pss_cons (ps_set (i := 4) sc_law_purse.nd rfl (.inl rfl) (pe_op op_add (pe_op op_mulG pe_int (pe_callB (id := "abs") c_abs (by rfl) T.b_abs (by decide +kernel) (pa_cons (pv 2) pa_nil))) (pe_ifExp (pt_cmpR op_lt (pv 2) pe_int (nomark _)) pe_int pe_int))) (pss_one (ps_ret (pe_lst (pa_cons (pe_ifExp (pt_cmpR op_ge (pv 4) (pe_op op_pow pe_int pe_int) (nomark _)) (pv 4) pe_int) (pa_cons (pe_op op_modN (pe_callTy (T := "int") c_int (by rfl) T.b_int (by decide +kernel) (pa_cons (pe_op op_add (pe_op op_add (pv 4) (pe_op op_mulG (pv 1) pe_int)) pe_int) pa_nil)) pe_int) (pa_cons (pv 1) pa_nil))))))))) (fun vs H Q E h => rd_law_purse h)
abbrev st_law_draw : Stmt := top 59
theorem sc_law_draw : FnScope ["purse", "many", "found"] ["purse", "many"] (defScope st_law_draw) := ⟨rfl, rfl, rfl, by decide +kernel, rfl, by decide +kernel, by decide +kernel⟩
theorem ok_law_draw (T : Txt mg) (hs : base.NoSeer) (ht : P.given.tree = none) (A : At Z.K mg "_law_draw" st_law_draw) : Cal P w Z.K mg base 33 "_law_draw" (sp_law_draw Z) :=
  cal_mk (k := 32) (t := r_law_draw Z) A sc_law_draw (fun _ _ _ _ => ln_law_draw) (fun _ _ _ _ _ _ us hl => match us, hl with | [_, _], _ => rfl) (fun f cdv A outer s H E hr => (pss_cons (ps_if (pt_cmpR op_gt (pe_ix x_ix (pv 0) pe_int (fun _ _ => rfl)) pe_int (nomark _)) (pss_cons (ps_set (i := 2) sc_law_draw.nd rfl (.inl rfl) (pe_op op_modN (pe_callTy (T := "int") c_int (by rfl) T.b_int (by decide +kernel) (pa_cons (pe_ix x_ix (pv 0) pe_int (fun _ _ => rfl)) pa_nil)) (pv 1))) (pss_cons (ps_asg (pe_op (op_fdivG ⟨hs, ht, ⟨_, outer, rfl, sc_law_draw.gen, sc_law_draw.co, rfl, rfl⟩, depth_of hr (by decide)⟩) (pe_ix x_ix (pv 0) pe_int (fun _ _ => rfl)) (pv 1)) (pg_sub (pv 0) pe_int z_set)) (pss_one (ps_ret (pv 2))))) pss_nil) (pss_cons (ps_augS (pv 0) pe_int z_get pe_int ip_add z_set) (pss_cons (ps_asg (pe_op op_modN (pe_callTy (T := "int") c_int (by rfl) T.b_int (by decide +kernel) (pa_cons (pe_op op_add (pe_op op_mulG (pe_ix x_ix (pv 0) pe_int (fun _ _ => rfl)) pe_int) (pe_op op_mulG (pe_ix x_ix (pv 0) pe_int (fun _ _ => rfl)) pe_int)) pa_nil)) pe_int) (pg_sub (pv 0) pe_int z_set)) (pss_one (ps_ret (pe_op op_modN (pe_op (op_fdivG ⟨hs, ht, ⟨_, outer, rfl, sc_law_draw.gen, sc_law_draw.co, rfl, rfl⟩, depth_of hr (by decide)⟩) (pe_op op_modN (pe_callTy (T := "int") c_int (by rfl) T.b_int (by decide +kernel) (pa_cons (pe_op op_add (pe_op op_mulG (pe_ix x_ix (pv 0) pe_int (fun _ _ => rfl)) pe_int) (pe_op op_mulG (pe_ix x_ix (pv 0) pe_int (fun _ _ => rfl)) pe_int)) pa_nil)) pe_int) pe_int) (pv 1)))))))) (fun vs H Q E h => rd_law_draw h)
abbrev st_law_span : Stmt := top 66
theorem sc_law_span : FnScope ["purse", "moments", "first"] ["purse", "moments"] (defScope st_law_span) := ⟨rfl, rfl, rfl, by decide +kernel, rfl, by decide +kernel, by decide +kernel⟩
theorem ok_law_span (C_law_draw : Cal P w Z.K mg base 33 "_law_draw" (sp_law_draw Z)) (A : At Z.K mg "_law_span" st_law_span) : Cal P w Z.K mg base 34 "_law_span" (sp_law_span Z) :=
  cal_mk (k := 33) (t := r_law_span Z) A sc_law_span (fun _ _ _ _ => ln_law_span) (fun _ _ _ _ _ _ us hl => match us, hl with | [_, _], _ => rfl) (fun f cdv A outer s H E hr => (pss_cons (ps_set (i := 2) sc_law_span.nd rfl (.inl rfl) (pe_op op_add pe_int (pe_ifExp (pt_cmpR op_eq (g_call C_law_draw (hr.mono (by decide)) rfl (pa_cons (pv 0) (pa_cons pe_int pa_nil))) pe_int (nomark _)) (g_call C_law_draw (hr.mono (by decide)) rfl (pa_cons (pv 0) (pa_cons (pv 1) pa_nil))) pe_int))) (pss_one (ps_ret (pe_tup (pa_cons (pv 2) (pa_cons (pe_op op_add (pv 2) (g_call C_law_draw (hr.mono (by decide)) rfl (pa_cons (pv 0) (pa_cons (pe_op op_add (pe_op op_sub (pv 1) (pv 2)) pe_int) pa_nil)))) pa_nil))))))) (fun vs H Q E h => rd_law_span h)
abbrev st_law_plain : Stmt := top 64
theorem sc_law_plain : FnScope ["width", "a", "b", "row"] ["width", "a", "b"] (defScope st_law_plain) := ⟨rfl, rfl, rfl, by decide +kernel, rfl, by decide +kernel, by decide +kernel⟩
theorem ok_law_plain  (A : At Z.K mg "_law_plain" st_law_plain) : Cal P w Z.K mg base 2 "_law_plain" (sp_law_plain Z) :=
  cal_mk (k := 1) (t := r_law_plain Z) A sc_law_plain (fun _ _ _ _ => ln_law_plain) (fun _ _ _ _ _ _ us hl => match us, hl with | [_, _, _], _ => rfl) (fun f cdv A outer s H E hr => (pss_cons (ps_set (i := 3) sc_law_plain.nd rfl (.inl rfl) (pe_op op_rep (pe_lst (pa_cons pe_int pa_nil)) (pv 0))) (pss_cons (ps_if (pt_cmpR op_gt (pv 1) pe_int (nomark _)) (pss_one (ps_asg (pe_un un_neg pe_int) (pg_sub (pv 3) (pe_op op_sub (pv 1) pe_int) z_set))) pss_nil) (pss_cons (ps_if (pt_cmpR op_gt (pv 2) pe_int (nomark _)) (pss_one (ps_asg pe_int (pg_sub (pv 3) (pe_op op_sub (pv 2) pe_int) z_set))) pss_nil) (pss_one (ps_ret (pv 3))))))) (fun vs H Q E h => rd_law_plain h)
abbrev st_law_zero : Stmt := top 62
theorem sc_law_zero : FnScope ["row", "one"] ["row"] (defScope st_law_zero) := ⟨rfl, rfl, rfl, by decide +kernel, rfl, by decide +kernel, by decide +kernel⟩
theorem ok_law_zero (T : Txt mg) (A : At Z.K mg "_law_zero" st_law_zero) : Cal P w Z.K mg base 2 "_law_zero" (sp_law_zero Z) :=
  cal_mk (k := 1) (t := r_law_zero Z) A sc_law_zero (fun _ _ _ _ => ln_law_zero) (fun _ _ _ _ _ _ us hl => match us, hl with | [_], _ => rfl) (fun f cdv A outer s H E hr => (pss_one (ps_ret (pe_cmpR op_eq (pe_callB (id := "len") c_len (by rfl) T.b_len (by decide +kernel) (pa_cons (pe_lc (own := [("one", 1)]) (by rfl) sc_law_zero.nd (pi_list (pv 0)) (blkOk_by (own := [("one", 1)]) (N := nm_law_zero) (sc := defScope st_law_zero) (by decide +kernel)) (fun _ _ _ _ _ => (pg_name (i := 1) sc_law_zero.nd rfl (Or.inl rfl))) (fun _ _ _ _ _ => (pts_one (pt_cmpR op_ne (pv 1) pe_int (nomark _)))) (fun _ _ _ _ _ => (pv 1))) pa_nil)) pe_int (nomark _))))) (fun vs H Q E h => rd_law_zero h)
abbrev st_law_shape : Stmt := top 65
theorem sc_law_shape : FnScope ["purse", "width", "style", "a", "b", "one", "row", "place"] ["purse", "width", "style"] (defScope st_law_shape) := ⟨rfl, rfl, rfl, by decide +kernel, rfl, by decide +kernel, by decide +kernel⟩
theorem ok_law_shape (T : Txt mg) (C_law_draw : Cal P w Z.K mg base 33 "_law_draw" (sp_law_draw Z)) (C_law_plain : Cal P w Z.K mg base 2 "_law_plain" (sp_law_plain Z)) (C_law_zero : Cal P w Z.K mg base 2 "_law_zero" (sp_law_zero Z)) (A : At Z.K mg "_law_shape" st_law_shape) : Cal P w Z.K mg base 34 "_law_shape" (sp_law_shape Z) :=
  cal_mk (k := 33) (t := r_law_shape Z) A sc_law_shape (fun _ _ _ _ => ln_law_shape) (fun _ _ _ _ _ _ us hl => match us, hl with | [_, _, _], _ => rfl) (fun f cdv A outer s H E hr => (pss_cons (ps_set (i := 3) sc_law_shape.nd rfl (.inl rfl) (g_call C_law_draw (hr.mono (by decide)) rfl (pa_cons (pv 0) (pa_cons (pe_op op_add (pv 1) pe_int) pa_nil)))) (pss_cons (ps_set (i := 4) sc_law_shape.nd rfl (.inl rfl) (pe_op op_modN (pe_callTy (T := "int") c_int (by rfl) T.b_int (by decide +kernel) (pa_cons (pe_op op_add (pe_op op_add (pv 3) pe_int) (g_call C_law_draw (hr.mono (by decide)) rfl (pa_cons (pv 0) (pa_cons (pv 1) pa_nil)))) pa_nil)) (pe_op op_add (pv 1) pe_int))) (pss_cons (ps_if (pt_cmpR op_eq (pv 2) pe_int (nomark _)) (pss_one (ps_ret (g_call C_law_plain (hr.mono (by decide)) rfl (pa_cons (pv 1) (pa_cons (pv 3) (pa_cons (pv 4) pa_nil)))))) pss_nil) (pss_cons (ps_if (pt_cmpR op_eq (pv 2) pe_int (nomark _)) (pss_one (ps_ret (pe_lc (own := [("one", 5)]) (by rfl) sc_law_shape.nd (pi_list (g_call C_law_plain (hr.mono (by decide)) rfl (pa_cons (pv 1) (pa_cons (pv 3) (pa_cons (pv 4) pa_nil))))) (blkOk_by (own := [("one", 5)]) (N := nm_law_shape) (sc := defScope st_law_shape) (by decide +kernel)) (fun _ _ _ _ _ => (pg_name (i := 5) sc_law_shape.nd rfl (Or.inl rfl))) (fun _ _ _ _ _ => pts_nil) (fun _ _ _ _ _ => (pe_op op_mulG (pe_op op_add pe_int (g_call C_law_draw (hr.mono (by decide)) rfl (pa_cons (pv 0) (pa_cons pe_int pa_nil)))) (pv 5)))))) pss_nil) (pss_cons (ps_setLc (i := 6) (own := [("place", 7)]) (by rfl) sc_law_shape.nd rfl rfl (sw_true rfl rfl rfl (by decide +kernel)) (pi_range1 rfl T.b_range (pa_cons (pv 1) pa_nil)) (blkOk_by (own := [("place", 7)]) (N := nm_law_shape) (sc := defScope st_law_shape) (by decide +kernel)) (fun _ _ _ _ _ => (pg_name (i := 7) sc_law_shape.nd rfl (Or.inl rfl))) (fun _ _ _ _ _ => pts_nil) (fun _ _ _ _ _ => (pe_op op_sub (g_call C_law_draw (hr.mono (by decide)) rfl (pa_cons (pv 0) (pa_cons pe_int pa_nil))) pe_int))) (pss_one (ps_ret (pe_ifExp (pt_not (pt_val (g_call C_law_zero (hr.mono (by decide)) rfl (pa_cons (pv 6) pa_nil)))) (pv 6) (g_call C_law_plain (hr.mono (by decide)) rfl (pa_cons (pv 1) (pa_cons (pv 3) (pa_cons (pv 4) pa_nil))))))))))))) (fun vs H Q E h => rd_law_shape h)
abbrev st_law_lines : Stmt := top 67
theorem sc_law_lines : FnScope ["purse", "width", "moments", "many", "style", "lines", "turn", "first", "last"] ["purse", "width", "moments", "many", "style"] (defScope st_law_lines) := ⟨rfl, rfl, rfl, by decide +kernel, rfl, by decide +kernel, by decide +kernel⟩
theorem ok_law_lines (T : Txt mg) (C_law_span : Cal P w Z.K mg base 34 "_law_span" (sp_law_span Z)) (C_law_shape : Cal P w Z.K mg base 34 "_law_shape" (sp_law_shape Z)) (A : At Z.K mg "_law_lines" st_law_lines) : Cal P w Z.K mg base 35 "_law_lines" (sp_law_lines Z) :=
  cal_mk (k := 34) (t := r_law_lines Z) A sc_law_lines (fun _ _ _ _ => ln_law_lines) (fun _ _ _ _ _ _ us hl => match us, hl with | [_, _, _, _, _], _ => rfl) (fun f cdv A outer s H E hr => (pss_cons (ps_set (i := 5) sc_law_lines.nd rfl (.inl rfl) (pe_lst pa_nil)) (pss_cons (ps_for PassesOwn.never rfl (pi_range1 rfl T.b_range (pa_cons (pv 3) pa_nil)) (pg_name (i := 6) sc_law_lines.nd rfl (.inl rfl)) (pss_cons (ps_asg (g_call C_law_span (hr.mono (by decide)) rfl (pa_cons (pv 0) (pa_cons (pv 2) pa_nil))) (pg_tup rfl (pgs_cons (pg_name (i := 7) sc_law_lines.nd rfl (.inl rfl)) (pgs_cons (pg_name (i := 8) sc_law_lines.nd rfl (.inl rfl)) pgs_nil)))) (pss_one (ps_expr (pe_bm PySem.F.plainAttrs_list PySem.F.slot_list_append PySem.F.type_list_append mt_append (pv 5) (pa_cons (pe_tup (pa_cons (g_call C_law_shape (hr.mono (by decide)) rfl (pa_cons (pv 0) (pa_cons (pv 1) (pa_cons (pv 4) pa_nil)))) (pa_cons (pv 7) (pa_cons (pv 8) pa_nil)))) pa_nil)))))) (pss_one (ps_ret (pv 5)))))) (fun vs H Q E h => rd_law_lines h)
abbrev st_law_all_sums : Stmt := top 75
theorem sc_law_all_sums : FnScope ["limits", "found", "least", "most", "longer", "one", "whole"] ["limits"] (defScope st_law_all_sums) := ⟨rfl, rfl, rfl, by decide +kernel, rfl, by decide +kernel, by decide +kernel⟩
theorem ok_law_all_sums (T : Txt mg) (A : At Z.K mg "_law_all_sums" st_law_all_sums) : Cal P w Z.K mg base 2 "_law_all_sums" (sp_law_all_sums Z) :=
  cal_mk (k := 1) (t := r_law_all_sums Z) A sc_law_all_sums (fun _ _ _ _ => ln_law_all_sums) (fun _ _ _ _ _ _ us hl => match us, hl with | [_], _ => rfl) (fun f cdv A outer s H E hr => (pss_cons (ps_set (i := 1) sc_law_all_sums.nd rfl (.inl rfl) (pe_lst (pa_cons (pe_lst pa_nil) pa_nil))) (pss_cons (ps_for PassesOwn.never rfl (pi_list (pv 0)) (pg_tup rfl (pgs_cons (pg_name (i := 2) sc_law_all_sums.nd rfl (.inl rfl)) (pgs_cons (pg_name (i := 3) sc_law_all_sums.nd rfl (.inl rfl)) pgs_nil))) (pss_cons (ps_set (i := 4) sc_law_all_sums.nd rfl (.inl rfl) (pe_lst pa_nil)) (pss_cons (ps_for PassesOwn.never rfl (pi_list (pv 1)) (pg_name (i := 5) sc_law_all_sums.nd rfl (.inr rfl)) (pss_one (ps_set (i := 4) sc_law_all_sums.nd rfl (.inl rfl) (pe_op op_cat (pv 4) (pe_lc (own := [("whole", 6)]) (by rfl) sc_law_all_sums.nd (pi_range2 rfl T.b_range (pa_cons (pv 2) (pa_cons (pe_op op_add (pv 3) pe_int) pa_nil))) (blkOk_by (own := [("whole", 6)]) (N := nm_law_all_sums) (sc := defScope st_law_all_sums) (by decide +kernel)) (fun _ _ _ _ _ => (pg_name (i := 6) sc_law_all_sums.nd rfl (Or.inl rfl))) (fun _ _ _ _ _ => pts_nil) (fun _ _ _ _ _ => (pe_op op_cat (pv 5) (pe_lst (pa_cons (pv 6) pa_nil))))))))) (pss_one (ps_set (i := 1) sc_law_all_sums.nd rfl (.inl rfl) (pv 4)))))) (pss_one (ps_ret (pv 1)))))) (fun vs H Q E h => rd_law_all_sums h)
abbrev st_law_less : Stmt := top 61
theorem sc_law_less : FnScope ["row", "number", "other", "place"] ["row", "number", "other"] (defScope st_law_less) := ⟨rfl, rfl, rfl, by decide +kernel, rfl, by decide +kernel, by decide +kernel⟩
theorem ok_law_less (T : Txt mg) (A : At Z.K mg "_law_less" st_law_less) : Cal P w Z.K mg base 2 "_law_less" (sp_law_less Z) :=
  cal_mk (k := 1) (t := r_law_less Z) A sc_law_less (fun _ _ _ _ => ln_law_less) (fun _ _ _ _ _ _ us hl => match us, hl with | [_, _, _], _ => rfl) (fun f cdv A outer s H E hr => (pss_one (ps_ret (pe_lc (own := [("place", 3)]) (by rfl) sc_law_less.nd (pi_range1 rfl T.b_range (pa_cons (pe_callB (id := "len") c_len (by rfl) T.b_len (by decide +kernel) (pa_cons (pv 0) pa_nil)) pa_nil)) (blkOk_by (own := [("place", 3)]) (N := nm_law_less) (sc := defScope st_law_less) (by decide +kernel)) (fun _ _ _ _ _ => (pg_name (i := 3) sc_law_less.nd rfl (Or.inl rfl))) (fun _ _ _ _ _ => pts_nil) (fun _ _ _ _ _ => (pe_op op_sub (pe_ix x_ix (pv 0) (pv 3) (fun _ _ => rfl)) (pe_op op_mulG (pv 1) (pe_ix x_ix (pv 2) (pv 3) (fun _ _ => rfl))))))))) (fun vs H Q E h => rd_law_less h)
abbrev st_law_ledger : Stmt := top 76
theorem sc_law_ledger : FnScope ["world", "amounts", "row", "line"] ["world", "amounts"] (defScope st_law_ledger) := ⟨rfl, rfl, rfl, by decide +kernel, rfl, by decide +kernel, by decide +kernel⟩
theorem ok_law_ledger (T : Txt mg) (C_law_less : Cal P w Z.K mg base 2 "_law_less" (sp_law_less Z)) (A : At Z.K mg "_law_ledger" st_law_ledger) : Cal P w Z.K mg base 3 "_law_ledger" (sp_law_ledger Z) :=
  cal_mk (k := 2) (t := r_law_ledger Z) A sc_law_ledger (fun _ _ _ _ => ln_law_ledger) (fun _ _ _ _ _ _ us hl => match us, hl with | [_, _], _ => rfl) (fun f cdv A outer s H E hr => (pss_cons (ps_set (i := 2) sc_law_ledger.nd rfl (.inl rfl) (pe_op op_rep (pe_lst (pa_cons pe_int pa_nil)) (pe_ix x_ix (pv 0) pe_int (fun _ _ => rfl)))) (pss_cons (ps_for PassesOwn.never rfl (pi_range1 rfl T.b_range (pa_cons (pe_callB (id := "len") c_len (by rfl) T.b_len (by decide +kernel) (pa_cons (pv 1) pa_nil)) pa_nil)) (pg_name (i := 3) sc_law_ledger.nd rfl (.inl rfl)) (pss_one (ps_set (i := 2) sc_law_ledger.nd rfl (.inl rfl) (g_call C_law_less (hr.mono (by decide)) rfl (pa_cons (pv 2) (pa_cons (pe_un un_neg (pe_ix x_ix (pv 1) (pv 3) (fun _ _ => rfl))) (pa_cons (pe_ix x_ixT (pe_ix x_ix (pe_ix x_ix (pv 0) pe_int (fun _ _ => rfl)) (pv 3) (fun _ _ => rfl)) pe_int (fun _ _ => rfl)) pa_nil))))))) (pss_one (ps_ret (pv 2)))))) (fun vs H Q E h => rd_law_ledger h)
abbrev st_law_mix : Stmt := top 60
theorem sc_law_mix : FnScope ["purse", "things", "left", "mixed", "turn"] ["purse", "things"] (defScope st_law_mix) := ⟨rfl, rfl, rfl, by decide +kernel, rfl, by decide +kernel, by decide +kernel⟩
theorem ok_law_mix (T : Txt mg) (C_law_draw : Cal P w Z.K mg base 33 "_law_draw" (sp_law_draw Z)) (A : At Z.K mg "_law_mix" st_law_mix) : Cal P w Z.K mg base 34 "_law_mix" (sp_law_mix Z) :=
  cal_mk (k := 33) (t := r_law_mix Z) A sc_law_mix (fun _ _ _ _ => ln_law_mix) (fun _ _ _ _ _ _ us hl => match us, hl with | [_, _], _ => rfl) (fun f cdv A outer s H E hr => (pss_cons (ps_set (i := 2) sc_law_mix.nd rfl (.inl rfl) (pe_callTy (T := "list") c_list (by rfl) T.b_list (by decide +kernel) (pa_cons (pv 1) pa_nil))) (pss_cons (ps_set (i := 3) sc_law_mix.nd rfl (.inl rfl) (pe_lst pa_nil)) (pss_cons (ps_for PassesOwn.never rfl (pi_range1 rfl T.b_range (pa_cons (pe_callB (id := "len") c_len (by rfl) T.b_len (by decide +kernel) (pa_cons (pv 1) pa_nil)) pa_nil)) (pg_name (i := 4) sc_law_mix.nd rfl (.inl rfl)) (pss_one (ps_expr (pe_bm PySem.F.plainAttrs_list PySem.F.slot_list_append PySem.F.type_list_append mt_append (pv 3) (pa_cons (pe_bm PySem.F.plainAttrs_list PySem.F.slot_list_pop PySem.F.type_list_pop mt_popAt (pv 2) (pa_cons (g_call C_law_draw (hr.mono (by decide)) rfl (pa_cons (pv 0) (pa_cons (pe_callB (id := "len") c_len (by rfl) T.b_len (by decide +kernel) (pa_cons (pv 2) pa_nil)) pa_nil))) pa_nil)) pa_nil))))) (pss_one (ps_ret (pv 3))))))) (fun vs H Q E h => rd_law_mix h)
abbrev st_law_blocks : Stmt := top 70
theorem sc_law_blocks : FnScope ["purse", "books", "many", "homes", "place", "found", "number", "block"] ["purse", "books", "many"] (defScope st_law_blocks) := ⟨rfl, rfl, rfl, by decide +kernel, rfl, by decide +kernel, by decide +kernel⟩
theorem ok_law_blocks (T : Txt mg) (C_law_draw : Cal P w Z.K mg base 33 "_law_draw" (sp_law_draw Z)) (C_law_mix : Cal P w Z.K mg base 34 "_law_mix" (sp_law_mix Z)) (A : At Z.K mg "_law_blocks" st_law_blocks) : Cal P w Z.K mg base 35 "_law_blocks" (sp_law_blocks Z) :=
  cal_mk (k := 34) (t := r_law_blocks Z) A sc_law_blocks (fun _ _ _ _ => ln_law_blocks) (fun _ _ _ _ _ _ us hl => match us, hl with | [_, _, _], _ => rfl) (fun f cdv A outer s H E hr => (pss_cons (ps_set (i := 3) sc_law_blocks.nd rfl (Or.inr rfl) (pe_lc (own := [("place", 4)]) (by rfl) sc_law_blocks.nd (pi_range1 rfl T.b_range (pa_cons (pv 1) pa_nil)) (blkOk_by (own := [("place", 4)]) (N := nm_law_blocks) (sc := defScope st_law_blocks) (by decide +kernel)) (fun _ _ _ _ _ => (pg_name (i := 4) sc_law_blocks.nd rfl (Or.inl rfl))) (fun _ _ _ _ _ => pts_nil) (fun _ _ _ _ _ => (g_call C_law_draw (hr.mono (by decide)) rfl (pa_cons (pv 0) (pa_cons (pe_op op_add (pv 2) pe_int) pa_nil)))))) (pss_cons (ps_set (i := 5) sc_law_blocks.nd rfl (.inl rfl) (pe_lst pa_nil)) (pss_cons (ps_for PassesOwn.never rfl (pi_range1 rfl T.b_range (pa_cons (pv 2) pa_nil)) (pg_name (i := 6) sc_law_blocks.nd rfl (.inr rfl)) (pss_cons (ps_setLc (i := 7) (own := [("place", 4)]) (by rfl) sc_law_blocks.nd rfl rfl (sw_true rfl rfl rfl (by decide +kernel)) (pi_range1 rfl T.b_range (pa_cons (pv 1) pa_nil)) (blkOk_by (own := [("place", 4)]) (N := nm_law_blocks) (sc := defScope st_law_blocks) (by decide +kernel)) (fun _ _ _ _ _ => (pg_name (i := 4) sc_law_blocks.nd rfl (Or.inl rfl))) (fun _ _ _ _ _ => (pts_one (pt_cmpR op_eq (pe_ix x_ix (pv 3) (pv 4) (fun _ _ => rfl)) (pv 6) (nomark _)))) (fun _ _ _ _ _ => (pe_op op_add (pv 4) pe_int))) (pss_one (ps_if (pt_cmpR (op_neD hr.units) (pv 7) (pe_lst pa_nil) (nomark _)) (pss_one (ps_expr (pe_bm PySem.F.plainAttrs_list PySem.F.slot_list_append PySem.F.type_list_append mt_append (pv 5) (pa_cons (g_call C_law_mix (hr.mono (by decide)) rfl (pa_cons (pv 0) (pa_cons (pv 7) pa_nil))) pa_nil)))) pss_nil)))) (pss_one (ps_ret (pv 5))))))) (fun vs H Q E h => rd_law_blocks h)
abbrev st_law_whole_blocks : Stmt := top 71
theorem sc_law_whole_blocks : FnScope ["books", "blocks", "rest", "node", "block"] ["books", "blocks"] (defScope st_law_whole_blocks) := ⟨rfl, rfl, rfl, by decide +kernel, rfl, by decide +kernel, by decide +kernel⟩
theorem ok_law_whole_blocks (T : Txt mg) (A : At Z.K mg "_law_whole_blocks" st_law_whole_blocks) : Cal P w Z.K mg base 2 "_law_whole_blocks" (sp_law_whole_blocks Z) :=
  cal_mk (k := 1) (t := r_law_whole_blocks Z) A sc_law_whole_blocks (fun _ _ _ _ => ln_law_whole_blocks) (fun _ _ _ _ _ _ us hl => match us, hl with | [_, _], _ => rfl) (fun f cdv A outer s H E hr => (pss_cons (ps_setLc (i := 2) (own := [("node", 3)]) (by rfl) sc_law_whole_blocks.nd rfl rfl (sw_true rfl rfl rfl (by decide +kernel)) (pi_range1 rfl T.b_range (pa_cons (pe_op op_add (pv 0) pe_int) pa_nil)) (blkOk_by (own := [("node", 3)]) (N := nm_law_whole_blocks) (sc := defScope st_law_whole_blocks) (by decide +kernel)) (fun _ _ _ _ _ => (pg_name (i := 3) sc_law_whole_blocks.nd rfl (Or.inr rfl))) (fun _ _ _ _ _ => (pts_one (pt_cmpR (op_eqD hr.units) (pe_lc (own := [("block", 4)]) (by rfl) sc_law_whole_blocks.nd (pi_list (pv 1)) (blkOk_by (own := [("block", 4)]) (by kernel_rfl)) (fun _ _ _ _ _ => (pg_name (i := 4) sc_law_whole_blocks.nd rfl (Or.inl rfl))) (fun _ _ _ _ _ => (pts_one (pt_cmpR op_in_seq (pv 3) (pv 4) (by with_unfolding_all rfl)))) (fun _ _ _ _ _ => (pv 4))) (pe_lst pa_nil) (nomark _)))) (fun _ _ _ _ _ => (pv 3))) (pss_one (ps_ret (pe_op op_cat (pv 1) (pe_lst (pa_cons (pv 2) pa_nil))))))) (fun vs H Q E h => rd_law_whole_blocks h)
abbrev st_law_group : Stmt := top 74
theorem sc_law_group : FnScope ["purse", "whole", "fit", "block", "books", "book", "full", "one", "kept"] ["purse", "whole"] (defScope st_law_group) := ⟨rfl, rfl, rfl, by decide +kernel, rfl, by decide +kernel, by decide +kernel⟩
theorem ok_law_group (T : Txt mg) (C_law_draw : Cal P w Z.K mg base 33 "_law_draw" (sp_law_draw Z)) (A : At Z.K mg "_law_group" st_law_group) : Cal P w Z.K mg base 34 "_law_group" (sp_law_group Z) :=
  cal_mk (k := 33) (t := r_law_group Z) A sc_law_group (fun _ _ _ _ => ln_law_group) (fun _ _ _ _ _ _ us hl => match us, hl with | [_, _], _ => rfl) (fun f cdv A outer s H E hr => (pss_cons (ps_set (i := 2) sc_law_group.nd rfl (.inl rfl) (pe_op op_cat (pe_lc (own := [("block", 3)]) (by rfl) sc_law_group.nd (pi_list (pe_slice sl_list (pv 1) po_none (po_some (pe_un un_neg pe_int)))) (blkOk_by (own := [("block", 3)]) (N := nm_law_group) (sc := defScope st_law_group) (by decide +kernel)) (fun _ _ _ _ _ => (pg_name (i := 3) sc_law_group.nd rfl (Or.inl rfl))) (fun _ _ _ _ _ => (pts_one (pt_cmpR op_gt (pe_callB (id := "len") c_len (by rfl) T.b_len (by decide +kernel) (pa_cons (pv 3) pa_nil)) pe_int (nomark _)))) (fun _ _ _ _ _ => (pv 3))) (pe_ifExp (pt_cmpR op_gt (pe_callB (id := "len") c_len (by rfl) T.b_len (by decide +kernel) (pa_cons (pe_ix ix_list (pv 1) (pe_un un_neg pe_int) (fun _ _ => rfl)) pa_nil)) pe_int (nomark _)) (pe_lst (pa_cons (pe_op op_cat (pe_slice sl_list (pe_ix ix_list (pv 1) (pe_un un_neg pe_int) (fun _ _ => rfl)) (po_some pe_int) po_none) (pe_lst (pa_cons pe_int pa_nil))) pa_nil)) (pe_lst pa_nil)))) (pss_cons (ps_if (pt_cmpR (op_eqD hr.units) (pv 2) (pe_lst pa_nil) (nomark _)) (pss_one (ps_ret (pe_lst pa_nil))) pss_nil) (pss_cons (ps_set (i := 4) sc_law_group.nd rfl (.inl rfl) (pe_callB (id := "sorted") cr_sortedI (by rfl) T.b_sorted (by decide +kernel) (pa_cons (pe_lc (own := [("book", 5)]) (by rfl) sc_law_group.nd (pi_list (pe_ix x_ix (pv 2) (g_call C_law_draw (hr.mono (by decide)) rfl (pa_cons (pv 0) (pa_cons (pe_callB (id := "len") c_len (by rfl) T.b_len (by decide +kernel) (pa_cons (pv 2) pa_nil)) pa_nil))) (fun _ _ => rfl))) (blkOk_by (own := [("book", 5)]) (N := nm_law_group) (sc := defScope st_law_group) (by decide +kernel)) (fun _ _ _ _ _ => (pg_name (i := 5) sc_law_group.nd rfl (Or.inl rfl))) (fun _ _ _ _ _ => (pts_one (pt_cmpR op_gt (pv 5) pe_int (nomark _)))) (fun _ _ _ _ _ => (pv 5))) pa_nil))) (pss_cons (ps_set (i := 6) sc_law_group.nd rfl (.inl rfl) (pe_ifExp (pt_cmpR (op_eqD hr.units) (pv 4) (pe_lc (own := [("one", 7)]) (by rfl) sc_law_group.nd (pi_list (pe_ix ix_list (pv 1) (pe_un un_neg pe_int) (fun _ _ => rfl))) (blkOk_by (own := [("one", 7)]) (N := nm_law_group) (sc := defScope st_law_group) (by decide +kernel)) (fun _ _ _ _ _ => (pg_name (i := 7) sc_law_group.nd rfl (Or.inl rfl))) (fun _ _ _ _ _ => (pts_one (pt_cmpR op_gt (pv 7) pe_int (nomark _)))) (fun _ _ _ _ _ => (pv 7))) (nomark _)) pe_int pe_int)) (pss_cons (ps_setLc (i := 8) (own := [("book", 5)]) (by rfl) sc_law_group.nd rfl rfl (sw_true rfl rfl rfl (by decide +kernel)) (pi_list (pv 4)) (blkOk_by (own := [("book", 5)]) (N := nm_law_group) (sc := defScope st_law_group) (by decide +kernel)) (fun _ _ _ _ _ => (pg_name (i := 5) sc_law_group.nd rfl (Or.inl rfl))) (fun _ _ _ _ _ => (pts_one (pt_cmpR op_eq (g_call C_law_draw (hr.mono (by decide)) rfl (pa_cons (pv 0) (pa_cons pe_int pa_nil))) pe_int (nomark _)))) (fun _ _ _ _ _ => (pv 5))) (pss_cons (ps_if (pt_cmpR (op_eqD hr.units) (pv 8) (pe_lst pa_nil) (nomark _)) (pss_one (ps_set (i := 8) sc_law_group.nd rfl (.inl rfl) (pe_lst (pa_cons (pe_ix x_ix (pv 4) (g_call C_law_draw (hr.mono (by decide)) rfl (pa_cons (pv 0) (pa_cons (pe_callB (id := "len") c_len (by rfl) T.b_len (by decide +kernel) (pa_cons (pv 4) pa_nil)) pa_nil))) (fun _ _ => rfl)) pa_nil)))) pss_nil) (pss_cons (ps_if (PW.pt (pw_and (pt_cmpR op_eq (pe_callB (id := "len") c_len (by rfl) T.b_len (by decide +kernel) (pa_cons (pv 8) pa_nil)) (pe_callB (id := "len") c_len (by rfl) T.b_len (by decide +kernel) (pa_cons (pv 4) pa_nil)) (nomark _)) (pw_and1 (pt_cmpR op_eq (pv 6) pe_int (nomark _))))) (pss_one (ps_set (i := 8) sc_law_group.nd rfl (.inl rfl) (pe_slice sl_list (pv 8) (po_some pe_int) po_none))) pss_nil) (pss_one (ps_ret (pv 8))))))))))) (fun vs H Q E h => rd_law_group h)
abbrev st_law_total : Stmt := top 77
theorem sc_law_total : FnScope ["row", "books", "book"] ["row", "books"] (defScope st_law_total) := ⟨rfl, rfl, rfl, by decide +kernel, rfl, by decide +kernel, by decide +kernel⟩
theorem ok_law_total (T : Txt mg) (A : At Z.K mg "_law_total" st_law_total) : Cal P w Z.K mg base 2 "_law_total" (sp_law_total Z) :=
  cal_mk (k := 1) (t := r_law_total Z) A sc_law_total (fun _ _ _ _ => ln_law_total) (fun _ _ _ _ _ _ us hl => match us, hl with | [_, _], _ => rfl) (fun f cdv A outer s H E hr => (pss_one (ps_ret (pe_callB (id := "sum") (cr_sum rfl) (by rfl) T.b_sum (by decide +kernel) (pa_cons (pe_lc (own := [("book", 2)]) (by rfl) sc_law_total.nd (pi_list (pv 1)) (blkOk_by (own := [("book", 2)]) (N := nm_law_total) (sc := defScope st_law_total) (by decide +kernel)) (fun _ _ _ _ _ => (pg_name (i := 2) sc_law_total.nd rfl (Or.inl rfl))) (fun _ _ _ _ _ => pts_nil) (fun _ _ _ _ _ => (pe_ix x_ix (pv 0) (pe_op op_sub (pv 2) pe_int) (fun _ _ => rfl)))) pa_nil))))) (fun vs H Q E h => rd_law_total h)
abbrev st_law_asked_totals : Stmt := top 78
theorem sc_law_asked_totals : FnScope ["purse", "world", "blocks", "sums", "row", "totals", "block", "at"] ["purse", "world", "blocks", "sums"] (defScope st_law_asked_totals) := ⟨rfl, rfl, rfl, by decide +kernel, rfl, by decide +kernel, by decide +kernel⟩
theorem ok_law_asked_totals (T : Txt mg) (C_law_ledger : Cal P w Z.K mg base 3 "_law_ledger" (sp_law_ledger Z)) (C_law_draw : Cal P w Z.K mg base 33 "_law_draw" (sp_law_draw Z)) (C_law_total : Cal P w Z.K mg base 2 "_law_total" (sp_law_total Z)) (A : At Z.K mg "_law_asked_totals" st_law_asked_totals) : Cal P w Z.K mg base 34 "_law_asked_totals" (sp_law_asked_totals Z) :=
  cal_mk (k := 33) (t := r_law_asked_totals Z) A sc_law_asked_totals (fun _ _ _ _ => ln_law_asked_totals) (fun _ _ _ _ _ _ us hl => match us, hl with | [_, _, _, _], _ => rfl) (fun f cdv A outer s H E hr => (pss_cons (ps_set (i := 4) sc_law_asked_totals.nd rfl (.inr rfl) (g_call C_law_ledger (hr.mono (by decide)) rfl (pa_cons (pv 1) (pa_cons (pe_ix x_ix (pv 3) (g_call C_law_draw (hr.mono (by decide)) rfl (pa_cons (pv 0) (pa_cons (pe_callB (id := "len") c_len (by rfl) T.b_len (by decide +kernel) (pa_cons (pv 3) pa_nil)) pa_nil))) (fun _ _ => rfl)) pa_nil)))) (pss_cons (ps_setLc (i := 5) (own := [("block", 6)]) (by rfl) sc_law_asked_totals.nd rfl rfl (sw_true rfl rfl rfl (by decide +kernel)) (pi_list (pv 2)) (blkOk_by (own := [("block", 6)]) (N := nm_law_asked_totals) (sc := defScope st_law_asked_totals) (by decide +kernel)) (fun _ _ _ _ _ => (pg_name (i := 6) sc_law_asked_totals.nd rfl (Or.inl rfl))) (fun _ _ _ _ _ => pts_nil) (fun _ _ _ _ _ => (g_call C_law_total (hr.mono (by decide)) rfl (pa_cons (pv 4) (pa_cons (pv 6) pa_nil))))) (pss_cons (ps_if (PW.pt (pw_and (pt_cmpR (op_neD hr.units) (pv 5) (pe_lst pa_nil) (nomark _)) (pw_and1 (pt_cmpR op_eq (g_call C_law_draw (hr.mono (by decide)) rfl (pa_cons (pv 0) (pa_cons pe_int pa_nil))) pe_int (nomark _))))) (pss_cons (ps_set (i := 7) sc_law_asked_totals.nd rfl (.inl rfl) (g_call C_law_draw (hr.mono (by decide)) rfl (pa_cons (pv 0) (pa_cons (pe_callB (id := "len") c_len (by rfl) T.b_len (by decide +kernel) (pa_cons (pv 5) pa_nil)) pa_nil)))) (pss_one (ps_asg (pe_op op_sub (pe_op op_add (pe_ix x_ix (pv 5) (pv 7) (fun _ _ => rfl)) pe_int) (pe_op op_mulG pe_int (g_call C_law_draw (hr.mono (by decide)) rfl (pa_cons (pv 0) (pa_cons pe_int pa_nil))))) (pg_sub (pv 5) (pv 7) z_set)))) pss_nil) (pss_one (ps_ret (pv 5))))))) (fun vs H Q E h => rd_law_asked_totals h)
abbrev st_check_numbers : Stmt := top 18
theorem sc_check_numbers : FnScope ["numbers", "most", "number"] ["numbers", "most"] (defScope st_check_numbers) := ⟨rfl, rfl, rfl, by decide +kernel, rfl, by decide +kernel, by decide +kernel⟩
theorem ok_check_numbers (T : Txt mg) (A : At Z.K mg "check_numbers" st_check_numbers) : Cal P w Z.K mg base 2 "check_numbers" (sp_check_numbers Z) :=
  cal_mk (k := 1) (t := r_check_numbers Z) A sc_check_numbers (fun _ _ _ _ => ln_check_numbers) (fun _ _ _ _ _ _ us hl => match us, hl with | [_, _], _ => rfl) (fun f cdv A outer s H E hr => (pss_one (ps_for PassesOwn.never rfl (pi_either (pi_list (pv 0)) (pi_tup (pv 0))) (pg_name (i := 2) sc_check_numbers.nd rfl (.inl rfl)) (pss_one (ps_if (PW.pt (pw_and (pt_val (pe_callB (id := "isinstance") call_isi (by rfl) T.b_isinstance (by decide +kernel) (pa_cons (pv 2) (pa_cons (pe_bltn (v := .ty "int") rfl T.b_int (by decide +kernel) rfl) pa_nil)))) (pw_and (pt_not (pt_val (pe_callB (id := "isinstance") call_isi (by rfl) T.b_isinstance (by decide +kernel) (pa_cons (pv 2) (pa_cons (pe_bltn (v := .ty "bool") rfl T.b_bool (by decide +kernel) rfl) pa_nil))))) (pw_and1 (pt_not (pt_chain op_le op_le (pe_un un_neg (pv 1)) (pv 2) (pv 1))))))) (pss_one ps_never) pss_nil))))) (fun vs H Q E h => rd_check_numbers h)
abbrev st_check_pair_numbers : Stmt := top 44
theorem sc_check_pair_numbers : FnScope ["rows", "most", "row"] ["rows", "most"] (defScope st_check_pair_numbers) := ⟨rfl, rfl, rfl, by decide +kernel, rfl, by decide +kernel, by decide +kernel⟩
theorem ok_check_pair_numbers (T : Txt mg) (C_check_numbers : Cal P w Z.K mg base 2 "check_numbers" (sp_check_numbers Z)) (A : At Z.K mg "check_pair_numbers" st_check_pair_numbers) : Cal P w Z.K mg base 3 "check_pair_numbers" (sp_check_pair_numbers Z) :=
  cal_mk (k := 2) (t := r_check_pair_numbers Z) A sc_check_pair_numbers (fun _ _ _ _ => ln_check_pair_numbers) (fun _ _ _ _ _ _ us hl => match us, hl with | [_, _], _ => rfl) (fun f cdv A outer s H E hr => (pss_one (ps_for PassesOwn.never rfl (pi_list (pv 0)) (pg_name (i := 2) sc_check_pair_numbers.nd rfl (.inl rfl)) (pss_one (ps_if (pt_val (pe_callB (id := "isinstance") call_isiT (by rfl) T.b_isinstance (by decide +kernel) (pa_cons (pv 2) (pa_cons (pe_tup (pa_cons (pe_bltn (v := .ty "list") rfl T.b_list (by decide +kernel) rfl) (pa_cons (pe_bltn (v := .ty "tuple") rfl T.b_tuple (by decide +kernel) rfl) pa_nil))) pa_nil)))) (pss_one (ps_expr (g_call C_check_numbers (hr.mono (by decide)) rfl (pa_cons (pv 2) (pa_cons (pv 1) pa_nil))))) pss_nil))))) (fun vs H Q E h => rd_check_pair_numbers h)
abbrev st_plain_ends : Stmt := top 22
theorem sc_plain_ends : FnScope ["shape", "lows", "place", "highs", "zeros", "one"] ["shape"] (defScope st_plain_ends) := ⟨rfl, rfl, rfl, by decide +kernel, rfl, by decide +kernel, by decide +kernel⟩
theorem ok_plain_ends (T : Txt mg) (A : At Z.K mg "plain_ends" st_plain_ends) : Cal P w Z.K mg base 2 "plain_ends" (sp_plain_ends Z) :=
  cal_mk (k := 1) (t := r_plain_ends Z) A sc_plain_ends (fun _ _ _ _ => ln_plain_ends) (fun _ _ _ _ _ _ us hl => match us, hl with | [_], _ => rfl) (fun f cdv A outer s H E hr => (pss_cons (ps_setLc (i := 1) (own := [("place", 2)]) (by rfl) sc_plain_ends.nd rfl rfl (sw_true rfl rfl rfl (by decide +kernel)) (pi_range1 rfl T.b_range (pa_cons (pe_callB (id := "len") c_len (by rfl) T.b_len (by decide +kernel) (pa_cons (pv 0) pa_nil)) pa_nil)) (blkOk_by (own := [("place", 2)]) (N := nm_plain_ends) (sc := defScope st_plain_ends) (by decide +kernel)) (fun _ _ _ _ _ => (pg_name (i := 2) sc_plain_ends.nd rfl (Or.inl rfl))) (fun _ _ _ _ _ => (pts_one (pt_cmpR op_eq (pe_ix x_ix (pv 0) (pv 2) (fun _ _ => rfl)) (pe_un un_neg pe_int) (nomark _)))) (fun _ _ _ _ _ => (pe_op op_add (pv 2) pe_int))) (pss_cons (ps_setLc (i := 3) (own := [("place", 2)]) (by rfl) sc_plain_ends.nd rfl rfl (sw_true rfl rfl rfl (by decide +kernel)) (pi_range1 rfl T.b_range (pa_cons (pe_callB (id := "len") c_len (by rfl) T.b_len (by decide +kernel) (pa_cons (pv 0) pa_nil)) pa_nil)) (blkOk_by (own := [("place", 2)]) (N := nm_plain_ends) (sc := defScope st_plain_ends) (by decide +kernel)) (fun _ _ _ _ _ => (pg_name (i := 2) sc_plain_ends.nd rfl (Or.inl rfl))) (fun _ _ _ _ _ => (pts_one (pt_cmpR op_eq (pe_ix x_ix (pv 0) (pv 2) (fun _ _ => rfl)) pe_int (nomark _)))) (fun _ _ _ _ _ => (pe_op op_add (pv 2) pe_int))) (pss_cons (ps_setLc (i := 4) (own := [("one", 5)]) (by rfl) sc_plain_ends.nd rfl rfl (sw_true rfl rfl rfl (by decide +kernel)) (pi_list (pv 0)) (blkOk_by (own := [("one", 5)]) (N := nm_plain_ends) (sc := defScope st_plain_ends) (by decide +kernel)) (fun _ _ _ _ _ => (pg_name (i := 5) sc_plain_ends.nd rfl (Or.inl rfl))) (fun _ _ _ _ _ => (pts_one (pt_cmpR op_eq (pv 5) pe_int (nomark _)))) (fun _ _ _ _ _ => (pv 5))) (pss_cons (ps_if (PW.pt (pw_or (pt_cmpR op_gt (pe_callB (id := "len") c_len (by rfl) T.b_len (by decide +kernel) (pa_cons (pv 1) pa_nil)) pe_int (nomark _)) (pw_or (pt_cmpR op_gt (pe_callB (id := "len") c_len (by rfl) T.b_len (by decide +kernel) (pa_cons (pv 3) pa_nil)) pe_int (nomark _)) (pw_or1 (pt_cmpR op_ne (pe_op op_add (pe_op op_add (pe_callB (id := "len") c_len (by rfl) T.b_len (by decide +kernel) (pa_cons (pv 1) pa_nil)) (pe_callB (id := "len") c_len (by rfl) T.b_len (by decide +kernel) (pa_cons (pv 3) pa_nil))) (pe_callB (id := "len") c_len (by rfl) T.b_len (by decide +kernel) (pa_cons (pv 4) pa_nil))) (pe_callB (id := "len") c_len (by rfl) T.b_len (by decide +kernel) (pa_cons (pv 0) pa_nil)) (nomark _)))))) (pss_one (ps_ret pe_non)) pss_nil) (pss_cons (ps_if (PW.pt (pw_and (pt_cmpR (op_eqD hr.units) (pv 1) (pe_lst pa_nil) (nomark _)) (pw_and1 (pt_cmpR (op_eqD hr.units) (pv 3) (pe_lst pa_nil) (nomark _))))) (pss_one (ps_ret pe_non)) pss_nil) (pss_one (ps_ret (pe_tup (pa_cons (pe_ifExp (pt_cmpR (op_neD hr.units) (pv 1) (pe_lst pa_nil) (nomark _)) (pe_ix x_ix (pv 1) pe_int (fun _ _ => rfl)) pe_int) (pa_cons (pe_ifExp (pt_cmpR (op_neD hr.units) (pv 3) (pe_lst pa_nil) (nomark _)) (pe_ix x_ix (pv 3) pe_int (fun _ _ => rfl)) pe_int) pa_nil))))))))))) (fun vs H Q E h => rd_plain_ends h)
abbrev st_check_plain_lines : Stmt := top 46
theorem sc_check_plain_lines : FnScope ["plan", "line"] ["plan"] (defScope st_check_plain_lines) := ⟨rfl, rfl, rfl, by decide +kernel, rfl, by decide +kernel, by decide +kernel⟩
theorem ok_check_plain_lines (T : Txt mg) (C_plain_ends : Cal P w Z.K mg base 2 "plain_ends" (sp_plain_ends Z)) (PC : PlanCls Z) (A : At Z.K mg "check_plain_lines" st_check_plain_lines) : Cal P w Z.K mg base 3 "check_plain_lines" (sp_check_plain_lines Z) :=
  cal_mk (k := 2) (t := r_check_plain_lines Z) A sc_check_plain_lines (fun _ _ _ _ => ln_check_plain_lines) (fun _ _ _ _ _ _ us hl => match us, hl with | [_], _ => rfl) (fun f cdv A outer s H E hr => (pss_one (ps_for PassesOwn.never rfl (pi_range1 rfl T.b_range (pa_cons (pe_callB (id := "len") c_len (by rfl) T.b_len (by decide +kernel) (pa_cons (pe_fld (pv 0) rfl) pa_nil)) pa_nil)) (pg_name (i := 1) sc_check_plain_lines.nd rfl (.inl rfl)) (pss_one (ps_if (pt_cmpR o_isN (g_call C_plain_ends (hr.mono (by decide)) rfl (pa_cons (pe_ix x_ixT (pe_ix x_ix (pe_fld (pv 0) rfl) (pv 1) (fun _ _ => rfl)) pe_int (fun _ _ => rfl)) pa_nil)) pe_non (nomark _)) (pss_one ps_never) pss_nil))))) (fun vs H Q E h => rd_check_plain_lines PC h)
abbrev st_check_still : Stmt := top 23
theorem sc_check_still : FnScope ["plan", "one"] ["plan"] (defScope st_check_still) := ⟨rfl, rfl, rfl, by decide +kernel, rfl, by decide +kernel, by decide +kernel⟩
theorem ok_check_still (PC : PlanCls Z) (A : At Z.K mg "check_still" st_check_still) : Cal P w Z.K mg base 2 "check_still" (sp_check_still Z) :=
  cal_mk (k := 1) (t := r_check_still Z) A sc_check_still (fun _ _ _ _ => ln_check_still) (fun _ _ _ _ _ _ us hl => match us, hl with | [_], _ => rfl) (fun f cdv A outer s H E hr => (pss_one (ps_if (pt_cmpR (op_neD hr.units) (pe_lc (own := [("one", 1)]) (by rfl) sc_check_still.nd (pi_list (pe_fld (pv 0) rfl)) (blkOk_by (own := [("one", 1)]) (N := nm_check_still) (sc := defScope st_check_still) (by decide +kernel)) (fun _ _ _ _ _ => (pg_name (i := 1) sc_check_still.nd rfl (Or.inl rfl))) (fun _ _ _ _ _ => (pts_one (pt_cmpR op_ne (pv 1) pe_int (nomark _)))) (fun _ _ _ _ _ => (pv 1))) (pe_lst pa_nil) (nomark _)) (pss_one ps_never) pss_nil))) (fun vs H Q E h => rd_check_still PC h)
abbrev st_is_whole : Stmt := top 20
theorem sc_is_whole : FnScope ["value"] ["value"] (defScope st_is_whole) := ⟨rfl, rfl, rfl, by decide +kernel, rfl, by decide +kernel, by decide +kernel⟩
theorem ok_is_whole (T : Txt mg) (A : At Z.K mg "is_whole" st_is_whole) : Cal P w Z.K mg base 2 "is_whole" (sp_is_whole Z) :=
  cal_mk (k := 1) (t := r_is_whole Z) A sc_is_whole (fun _ _ _ _ => ln_is_whole) (fun _ _ _ _ _ _ us hl => match us, hl with | [_], _ => rfl) (fun f cdv A outer s H E hr => (pss_one (ps_ret (pe_and (pe_callB (id := "isinstance") call_isi (by rfl) T.b_isinstance (by decide +kernel) (pa_cons (pv 0) (pa_cons (pe_bltn (v := .ty "int") rfl T.b_int (by decide +kernel) rfl) pa_nil))) (pe_one (pe_not (pe_callB (id := "isinstance") call_isi (by rfl) T.b_isinstance (by decide +kernel) (pa_cons (pv 0) (pa_cons (pe_bltn (v := .ty "bool") rfl T.b_bool (by decide +kernel) rfl) pa_nil))))))))) (fun vs H Q E h => rd_is_whole h)
abbrev st_whole_list : Stmt := top 21
theorem sc_whole_list : FnScope ["value", "many", "one"] ["value", "many"] (defScope st_whole_list) := ⟨rfl, rfl, rfl, by decide +kernel, rfl, by decide +kernel, by decide +kernel⟩
theorem ok_whole_list (T : Txt mg) (C_is_whole : Cal P w Z.K mg base 2 "is_whole" (sp_is_whole Z)) (A : At Z.K mg "whole_list" st_whole_list) : Cal P w Z.K mg base 3 "whole_list" (sp_whole_list Z) :=
  cal_mk (k := 2) (t := r_whole_list Z) A sc_whole_list (fun _ _ _ _ => ln_whole_list) (fun _ _ _ _ _ _ us hl => match us, hl with | [_, _], _ => rfl) (fun f cdv A outer s H E hr => (pss_cons (ps_if (PW.pt (pw_or (pt_not (pt_val (pe_callB (id := "isinstance") call_isiT (by rfl) T.b_isinstance (by decide +kernel) (pa_cons (pv 0) (pa_cons (pe_tup (pa_cons (pe_bltn (v := .ty "list") rfl T.b_list (by decide +kernel) rfl) (pa_cons (pe_bltn (v := .ty "tuple") rfl T.b_tuple (by decide +kernel) rfl) pa_nil))) pa_nil))))) (pw_or1 (pt_cmpR op_ne (pe_callB (id := "len") c_len (by rfl) T.b_len (by decide +kernel) (pa_cons (pv 0) pa_nil)) (pv 1) (nomark _))))) (pss_one (ps_ret pe_bl)) pss_nil) (pss_one (ps_ret (pe_cmpR (op_eqD hr.units) (pe_lc (own := [("one", 2)]) (by rfl) sc_whole_list.nd (pi_either (pi_list (pv 0)) (pi_tup (pv 0))) (blkOk_by (own := [("one", 2)]) (N := nm_whole_list) (sc := defScope st_whole_list) (by decide +kernel)) (fun _ _ _ _ _ => (pg_name (i := 2) sc_whole_list.nd rfl (Or.inl rfl))) (fun _ _ _ _ _ => (pts_one (pt_not (pt_val (g_call C_is_whole (hr.mono (by decide)) rfl (pa_cons (pv 2) pa_nil)))))) (fun _ _ _ _ _ => (pv 2))) (pe_lst pa_nil) (nomark _)))))) (fun vs H Q E h => rd_whole_list h)
abbrev st_check_pairs : Stmt := top 43
theorem sc_check_pairs : FnScope ["kind", "rows", "many", "first", "at"] ["kind", "rows", "many", "first"] (defScope st_check_pairs) := ⟨rfl, rfl, rfl, by decide +kernel, rfl, by decide +kernel, by decide +kernel⟩
theorem ok_check_pairs (T : Txt mg) (C_whole_list : Cal P w Z.K mg base 3 "whole_list" (sp_whole_list Z)) (A : At Z.K mg "check_pairs" st_check_pairs) : Cal P w Z.K mg base 4 "check_pairs" (sp_check_pairs Z) :=
  cal_mk (k := 3) (t := r_check_pairs Z) A sc_check_pairs (fun _ _ _ _ => ln_check_pairs) (fun _ _ _ _ _ _ us hl => match us, hl with | [_, _, _, _], _ => rfl) (fun f cdv A outer s H E hr => (pss_cons (ps_if (PW.pt (pw_or (pt_not (pt_val (pe_callB (id := "isinstance") call_isiT (by rfl) T.b_isinstance (by decide +kernel) (pa_cons (pv 1) (pa_cons (pe_tup (pa_cons (pe_bltn (v := .ty "list") rfl T.b_list (by decide +kernel) rfl) (pa_cons (pe_bltn (v := .ty "tuple") rfl T.b_tuple (by decide +kernel) rfl) pa_nil))) pa_nil))))) (pw_or1 (pt_cmpR op_ne (pe_callB (id := "len") c_len (by rfl) T.b_len (by decide +kernel) (pa_cons (pv 1) pa_nil)) (pv 2) (nomark _))))) (pss_one ps_never) pss_nil) (pss_one (ps_for PassesOwn.never rfl (pi_range1 rfl T.b_range (pa_cons (pv 2) pa_nil)) (pg_name (i := 4) sc_check_pairs.nd rfl (.inl rfl)) (pss_one (ps_if (PW.pt (pw_or (pt_not (pt_val (g_call C_whole_list (hr.mono (by decide)) rfl (pa_cons (pe_ix x_ix (pv 1) (pv 4) (fun _ _ => rfl)) (pa_cons pe_int pa_nil))))) (pw_or1 (pt_cmpR op_gt (pe_ix x_ixT (pe_ix x_ix (pv 1) (pv 4) (fun _ _ => rfl)) pe_int (fun _ _ => rfl)) (pe_ix x_ixT (pe_ix x_ix (pv 1) (pv 4) (fun _ _ => rfl)) pe_int (fun _ _ => rfl)) (nomark _))))) (pss_one ps_never) pss_nil)))))) (fun vs H Q E h => rd_check_pairs h)
abbrev st_check_blocks : Stmt := top 47
theorem sc_check_blocks : FnScope ["plan", "blocks", "seen", "block", "book"] ["plan", "blocks"] (defScope st_check_blocks) := ⟨rfl, rfl, rfl, by decide +kernel, rfl, by decide +kernel, by decide +kernel⟩
theorem ok_check_blocks (T : Txt mg) (C_is_whole : Cal P w Z.K mg base 2 "is_whole" (sp_is_whole Z)) (PC : PlanCls Z) (A : At Z.K mg "check_blocks" st_check_blocks) : Cal P w Z.K mg base 3 "check_blocks" (sp_check_blocks Z) :=
  cal_mk (k := 2) (t := r_check_blocks Z) A sc_check_blocks (fun _ _ _ _ => ln_check_blocks) (fun _ _ _ _ _ _ us hl => match us, hl with | [_, _], _ => rfl) (fun f cdv A outer s H E hr => (pss_cons (ps_set (i := 2) sc_check_blocks.nd rfl (.inl rfl) (pe_lst pa_nil)) (pss_one (ps_for PassesOwn.never rfl (pi_list (pv 1)) (pg_name (i := 3) sc_check_blocks.nd rfl (.inl rfl)) (pss_cons (ps_if (pt_cmpR op_eq (pe_callB (id := "len") c_len (by rfl) T.b_len (by decide +kernel) (pa_cons (pv 3) pa_nil)) pe_int (nomark _)) (pss_one ps_never) pss_nil) (pss_one (ps_for PassesOwn.never rfl (pi_list (pv 3)) (pg_name (i := 4) sc_check_blocks.nd rfl (.inl rfl)) (pss_cons (ps_if (PW.pt (pw_or (pt_not (pt_val (g_call C_is_whole (hr.mono (by decide)) rfl (pa_cons (pv 4) pa_nil)))) (pw_or (pt_not (pt_chain op_le op_le pe_int (pv 4) (pe_fld (pv 0) rfl))) (pw_or1 (pt_cmpR op_in_seq (pv 4) (pv 2) (by with_unfolding_all rfl)))))) (pss_one ps_never) pss_nil) (pss_one (ps_expr (pe_bm PySem.F.plainAttrs_list PySem.F.slot_list_append PySem.F.type_list_append mt_append (pv 2) (pa_cons (pv 4) pa_nil)))))))))))) (fun vs H Q E h => rd_check_blocks PC h)
abbrev st_block_of : Stmt := top 50
theorem sc_block_of : FnScope ["blocks", "book", "number"] ["blocks", "book"] (defScope st_block_of) := ⟨rfl, rfl, rfl, by decide +kernel, rfl, by decide +kernel, by decide +kernel⟩
theorem ok_block_of (T : Txt mg) (A : At Z.K mg "block_of" st_block_of) : Cal P w Z.K mg base 2 "block_of" (sp_block_of Z) :=
  cal_mk (k := 1) (t := r_block_of Z) A sc_block_of (fun _ _ _ _ => ln_block_of) (fun _ _ _ _ _ _ us hl => match us, hl with | [_, _], _ => rfl) (fun f cdv A outer s H E hr => (pss_cons (ps_for PassesOwn.never rfl (pi_range1 rfl T.b_range (pa_cons (pe_callB (id := "len") c_len (by rfl) T.b_len (by decide +kernel) (pa_cons (pv 0) pa_nil)) pa_nil)) (pg_name (i := 2) sc_block_of.nd rfl (.inl rfl)) (pss_one (ps_if (pt_cmpR op_in_seq (pv 1) (pe_ix x_ix (pv 0) (pv 2) (fun _ _ => rfl)) (by with_unfolding_all rfl)) (pss_one (ps_ret (pv 2))) pss_nil))) (pss_one (ps_ret (pe_callB (id := "len") c_len (by rfl) T.b_len (by decide +kernel) (pa_cons (pv 0) pa_nil)))))) (fun vs H Q E h => rd_block_of h)
abbrev st_check_group : Stmt := top 49
theorem sc_check_group : FnScope ["plan", "blocks", "group", "before", "book", "home"] ["plan", "blocks", "group"] (defScope st_check_group) := ⟨rfl, rfl, rfl, by decide +kernel, rfl, by decide +kernel, by decide +kernel⟩
theorem ok_check_group (T : Txt mg) (C_is_whole : Cal P w Z.K mg base 2 "is_whole" (sp_is_whole Z)) (C_block_of : Cal P w Z.K mg base 2 "block_of" (sp_block_of Z)) (PC : PlanCls Z) (A : At Z.K mg "check_group" st_check_group) : Cal P w Z.K mg base 3 "check_group" (sp_check_group Z) :=
  cal_mk (k := 2) (t := r_check_group Z) A sc_check_group (fun _ _ _ _ => ln_check_group) (fun _ _ _ _ _ _ us hl => match us, hl with | [_, _, _], _ => rfl) (fun f cdv A outer s H E hr => (pss_cons (ps_set (i := 3) sc_check_group.nd rfl (.inl rfl) pe_int) (pss_cons (ps_for PassesOwn.never rfl (pi_list (pv 2)) (pg_name (i := 4) sc_check_group.nd rfl (.inl rfl)) (pss_cons (ps_if (PW.pt (pw_or (pt_not (pt_val (g_call C_is_whole (hr.mono (by decide)) rfl (pa_cons (pv 4) pa_nil)))) (pw_or1 (pt_not (pt_chain op_lt op_le (pv 3) (pv 4) (pe_fld (pv 0) rfl)))))) (pss_one ps_never) pss_nil) (pss_cons (ps_if (pt_cmpR op_ne (g_call C_block_of (hr.mono (by decide)) rfl (pa_cons (pv 1) (pa_cons (pv 4) pa_nil))) (g_call C_block_of (hr.mono (by decide)) rfl (pa_cons (pv 1) (pa_cons (pe_ix x_ix (pv 2) pe_int (fun _ _ => rfl)) pa_nil))) (nomark _)) (pss_one ps_never) pss_nil) (pss_one (ps_set (i := 3) sc_check_group.nd rfl (.inl rfl) (pv 4)))))) (pss_cons (ps_if (pt_cmpR op_eq (pe_callB (id := "len") c_len (by rfl) T.b_len (by decide +kernel) (pa_cons (pv 2) pa_nil)) pe_int (nomark _)) (pss_one ps_never) pss_nil) (pss_cons (ps_set (i := 5) sc_check_group.nd rfl (.inl rfl) (g_call C_block_of (hr.mono (by decide)) rfl (pa_cons (pv 1) (pa_cons (pe_ix x_ix (pv 2) pe_int (fun _ _ => rfl)) pa_nil)))) (pss_one (ps_if (PW.pt (pw_and (pt_cmpR op_lt (pv 5) (pe_callB (id := "len") c_len (by rfl) T.b_len (by decide +kernel) (pa_cons (pv 1) pa_nil)) (nomark _)) (pw_and1 (pt_cmpR op_eq (pe_callB (id := "len") c_len (by rfl) T.b_len (by decide +kernel) (pa_cons (pv 2) pa_nil)) (pe_callB (id := "len") c_len (by rfl) T.b_len (by decide +kernel) (pa_cons (pe_ix x_ix (pv 1) (pv 5) (fun _ _ => rfl)) pa_nil)) (nomark _))))) (pss_one ps_never) pss_nil))))))) (fun vs H Q E h => rd_check_group PC h)
abbrev st_all_blocks : Stmt := top 51
theorem sc_all_blocks : FnScope ["plan", "blocks", "rest", "node", "block"] ["plan", "blocks"] (defScope st_all_blocks) := ⟨rfl, rfl, rfl, by decide +kernel, rfl, by decide +kernel, by decide +kernel⟩
theorem ok_all_blocks (T : Txt mg) (C_block_of : Cal P w Z.K mg base 2 "block_of" (sp_block_of Z)) (PC : PlanCls Z) (A : At Z.K mg "all_blocks" st_all_blocks) : Cal P w Z.K mg base 3 "all_blocks" (sp_all_blocks Z) :=
  cal_mk (k := 2) (t := r_all_blocks Z) A sc_all_blocks (fun _ _ _ _ => ln_all_blocks) (fun _ _ _ _ _ _ us hl => match us, hl with | [_, _], _ => rfl) (fun f cdv A outer s H E hr => (pss_cons (ps_setLc (i := 2) (own := [("node", 3)]) (by rfl) sc_all_blocks.nd rfl rfl (sw_true rfl rfl rfl (by decide +kernel)) (pi_range1 rfl T.b_range (pa_cons (pe_op op_add (pe_fld (pv 0) rfl) pe_int) pa_nil)) (blkOk_by (own := [("node", 3)]) (N := nm_all_blocks) (sc := defScope st_all_blocks) (by decide +kernel)) (fun _ _ _ _ _ => (pg_name (i := 3) sc_all_blocks.nd rfl (Or.inl rfl))) (fun _ _ _ _ _ => (pts_one (pt_cmpR op_eq (g_call C_block_of (hr.mono (by decide)) rfl (pa_cons (pv 1) (pa_cons (pv 3) pa_nil))) (pe_callB (id := "len") c_len (by rfl) T.b_len (by decide +kernel) (pa_cons (pv 1) pa_nil)) (nomark _)))) (fun _ _ _ _ _ => (pv 3))) (pss_one (ps_ret (pe_op op_cat (pe_lc (own := [("block", 4)]) (by rfl) sc_all_blocks.nd (pi_list (pv 1)) (blkOk_by (own := [("block", 4)]) (N := nm_all_blocks) (sc := defScope st_all_blocks) (by decide +kernel)) (fun _ _ _ _ _ => (pg_name (i := 4) sc_all_blocks.nd rfl (Or.inl rfl))) (fun _ _ _ _ _ => pts_nil) (fun _ _ _ _ _ => (pe_callTy (T := "list") c_list (by rfl) T.b_list (by decide +kernel) (pa_cons (pv 4) pa_nil)))) (pe_lst (pa_cons (pv 2) pa_nil))))))) (fun vs H Q E h => rd_all_blocks PC h)
abbrev st_sets_of : Stmt := top 25
theorem sc_sets_of : FnScope ["numbers", "most", "found", "level", "size", "longer", "row", "number"] ["numbers", "most"] (defScope st_sets_of) := ⟨rfl, rfl, rfl, by decide +kernel, rfl, by decide +kernel, by decide +kernel⟩
theorem ok_sets_of (T : Txt mg) (A : At Z.K mg "sets_of" st_sets_of) : Cal P w Z.K mg base 2 "sets_of" (sp_sets_of Z) :=
  cal_mk (k := 1) (t := r_sets_of Z) A sc_sets_of (fun _ _ _ _ => ln_sets_of) (fun _ _ _ _ _ _ us hl => match us, hl with | [_, _], _ => rfl) (fun f cdv A outer s H E hr => (pss_cons (ps_set (i := 2) sc_sets_of.nd rfl (.inl rfl) (pe_lst (pa_cons (pe_lst pa_nil) pa_nil))) (pss_cons (ps_set (i := 3) sc_sets_of.nd rfl (.inl rfl) (pe_lst (pa_cons (pe_lst pa_nil) pa_nil))) (pss_cons (ps_for PassesOwn.never rfl (pi_range1 rfl T.b_range (pa_cons (pv 1) pa_nil)) (pg_name (i := 4) sc_sets_of.nd rfl (.inl rfl)) (pss_cons (ps_set (i := 5) sc_sets_of.nd rfl (.inl rfl) (pe_lst pa_nil)) (pss_cons (ps_for PassesOwn.never rfl (pi_list (pv 3)) (pg_name (i := 6) sc_sets_of.nd rfl (.inl rfl)) (pss_one (ps_for PassesOwn.never rfl (pi_list (pv 0)) (pg_name (i := 7) sc_sets_of.nd rfl (.inl rfl)) (pss_one (ps_if (PW.pt (pw_or (pt_cmpR (op_eqD hr.units) (pv 6) (pe_lst pa_nil) (nomark _)) (pw_or1 (pt_cmpR op_gt (pv 7) (pe_ix ix_list (pv 6) (pe_un un_neg pe_int) (fun _ _ => rfl)) (nomark _))))) (pss_one (ps_expr (pe_bm PySem.F.plainAttrs_list PySem.F.slot_list_append PySem.F.type_list_append mt_append (pv 5) (pa_cons (pe_op op_cat (pv 6) (pe_lst (pa_cons (pv 7) pa_nil))) pa_nil)))) pss_nil))))) (pss_cons (ps_set (i := 2) sc_sets_of.nd rfl (.inl rfl) (pe_op op_cat (pv 2) (pv 5))) (pss_one (ps_set (i := 3) sc_sets_of.nd rfl (.inl rfl) (pv 5))))))) (pss_one (ps_ret (pv 2))))))) (fun vs H Q E h => rd_sets_of h)
abbrev st_nodes_of : Stmt := top 53
theorem sc_nodes_of : FnScope ["whole", "numbers", "nodes", "number"] ["whole", "numbers"] (defScope st_nodes_of) := ⟨rfl, rfl, rfl, by decide +kernel, rfl, by decide +kernel, by decide +kernel⟩
theorem ok_nodes_of  (A : At Z.K mg "nodes_of" st_nodes_of) : Cal P w Z.K mg base 2 "nodes_of" (sp_nodes_of Z) :=
  cal_mk (k := 1) (t := r_nodes_of Z) A sc_nodes_of (fun _ _ _ _ => ln_nodes_of) (fun _ _ _ _ _ _ us hl => match us, hl with | [_, _], _ => rfl) (fun f cdv A outer s H E hr => (pss_cons (ps_set (i := 2) sc_nodes_of.nd rfl (.inl rfl) (pe_lst pa_nil)) (pss_cons (ps_for PassesOwn.never rfl (pi_list (pv 1)) (pg_name (i := 3) sc_nodes_of.nd rfl (.inl rfl)) (pss_one (ps_set (i := 2) sc_nodes_of.nd rfl (.inl rfl) (pe_op op_cat (pv 2) (pe_ix x_ix (pv 0) (pv 3) (fun _ _ => rfl)))))) (pss_one (ps_ret (pv 2)))))) (fun vs H Q E h => rd_nodes_of h)
abbrev st_brought_in : Stmt := top 52
theorem sc_brought_in : FnScope ["plan", "limits", "nodes", "side", "total", "line", "a", "b"] ["plan", "limits", "nodes", "side"] (defScope st_brought_in) := ⟨rfl, rfl, rfl, by decide +kernel, rfl, by decide +kernel, by decide +kernel⟩
theorem ok_brought_in (T : Txt mg) (C_plain_ends : Cal P w Z.K mg base 2 "plain_ends" (sp_plain_ends Z)) (PC : PlanCls Z) (A : At Z.K mg "brought_in" st_brought_in) : Cal P w Z.K mg base 3 "brought_in" (sp_brought_in Z) :=
  cal_mk (k := 2) (t := r_brought_in Z) A sc_brought_in (fun _ _ _ _ => ln_brought_in) (fun _ _ _ _ _ _ us hl => match us, hl with | [_, _, _, _], _ => rfl) (fun f cdv A outer s H E hr => (pss_cons (ps_set (i := 4) sc_brought_in.nd rfl (.inl rfl) pe_int) (pss_cons (ps_for PassesOwn.never rfl (pi_range1 rfl T.b_range (pa_cons (pe_callB (id := "len") c_len (by rfl) T.b_len (by decide +kernel) (pa_cons (pv 1) pa_nil)) pa_nil)) (pg_name (i := 5) sc_brought_in.nd rfl (.inl rfl)) (pss_cons (ps_asg (g_call C_plain_ends (hr.mono (by decide)) rfl (pa_cons (pe_ix x_ixT (pe_ix x_ix (pe_fld (pv 0) rfl) (pv 5) (fun _ _ => rfl)) pe_int (fun _ _ => rfl)) pa_nil)) (pg_tup rfl (pgs_cons (pg_name (i := 6) sc_brought_in.nd rfl (.inl rfl)) (pgs_cons (pg_name (i := 7) sc_brought_in.nd rfl (.inl rfl)) pgs_nil)))) (pss_cons (ps_if (PW.pt (pw_and (pt_cmpR op_in_seq (pv 7) (pv 2) (by with_unfolding_all rfl)) (pw_and1 (pt_cmpR op_notIn_seq (pv 6) (pv 2) (by with_unfolding_all rfl))))) (pss_one (ps_aug (i := 4) sc_brought_in.nd rfl (.inl rfl) (pe_ix x_ixT (pe_ix x_ix (pv 1) (pv 5) (fun _ _ => rfl)) (pv 3) (fun _ _ => rfl)) ip_add)) pss_nil) (pss_one (ps_if (PW.pt (pw_and (pt_cmpR op_in_seq (pv 6) (pv 2) (by with_unfolding_all rfl)) (pw_and1 (pt_cmpR op_notIn_seq (pv 7) (pv 2) (by with_unfolding_all rfl))))) (pss_one (ps_aug (i := 4) sc_brought_in.nd rfl (.inl rfl) (pe_ix x_ixT (pe_ix x_ix (pv 1) (pv 5) (fun _ _ => rfl)) (pe_op op_sub pe_int (pv 3)) (fun _ _ => rfl)) ip_sub)) pss_nil))))) (pss_one (ps_ret (pv 4)))))) (fun vs H Q E h => rd_brought_in PC h)
abbrev st_block_fault : Stmt := top 54
theorem sc_block_fault : FnScope ["plan", "limits", "whole", "sums", "numbers", "nodes", "total", "number", "most", "least"] ["plan", "limits", "whole", "sums"] (defScope st_block_fault) := ⟨rfl, rfl, rfl, by decide +kernel, rfl, by decide +kernel, by decide +kernel⟩
theorem ok_block_fault (T : Txt mg) (C_sets_of : Cal P w Z.K mg base 2 "sets_of" (sp_sets_of Z)) (C_nodes_of : Cal P w Z.K mg base 2 "nodes_of" (sp_nodes_of Z)) (C_brought_in : Cal P w Z.K mg base 3 "brought_in" (sp_brought_in Z)) (A : At Z.K mg "block_fault" st_block_fault) : Cal P w Z.K mg base 4 "block_fault" (sp_block_fault Z) :=
  cal_mk (k := 3) (t := r_block_fault Z) A sc_block_fault (fun _ _ _ _ => ln_block_fault) (fun _ _ _ _ _ _ us hl => match us, hl with | [_, _, _, _], _ => rfl) (fun f cdv A outer s H E hr => (pss_cons (ps_for PassesOwn.never rfl (pi_list (g_call C_sets_of (hr.mono (by decide)) rfl (pa_cons (pe_listRg rfl rfl T.b_list (prg_1 rfl T.b_range (pe_callB (id := "len") c_len (by rfl) T.b_len (by decide +kernel) (pa_cons (pv 2) pa_nil)))) (pa_cons (pe_callB (id := "len") c_len (by rfl) T.b_len (by decide +kernel) (pa_cons (pv 2) pa_nil)) pa_nil)))) (pg_name (i := 4) sc_block_fault.nd rfl (.inl rfl)) (pss_cons (ps_set (i := 5) sc_block_fault.nd rfl (.inl rfl) (g_call C_nodes_of (hr.mono (by decide)) rfl (pa_cons (pv 2) (pa_cons (pv 4) pa_nil)))) (pss_cons (ps_set (i := 6) sc_block_fault.nd rfl (.inl rfl) (pe_callB (id := "sum") (cr_sum rfl) (by rfl) T.b_sum (by decide +kernel) (pa_cons (pe_lc (own := [("number", 7)]) (by rfl) sc_block_fault.nd (pi_list (pv 4)) (blkOk_by (own := [("number", 7)]) (N := nm_block_fault) (sc := defScope st_block_fault) (by decide +kernel)) (fun _ _ _ _ _ => (pg_name (i := 7) sc_block_fault.nd rfl (Or.inl rfl))) (fun _ _ _ _ _ => pts_nil) (fun _ _ _ _ _ => (pe_ix x_ix (pv 3) (pv 7) (fun _ _ => rfl)))) pa_nil))) (pss_cons (ps_set (i := 8) sc_block_fault.nd rfl (.inl rfl) (g_call C_brought_in (hr.mono (by decide)) rfl (pa_cons (pv 0) (pa_cons (pv 1) (pa_cons (pv 5) (pa_cons pe_int pa_nil)))))) (pss_cons (ps_set (i := 9) sc_block_fault.nd rfl (.inl rfl) (g_call C_brought_in (hr.mono (by decide)) rfl (pa_cons (pv 0) (pa_cons (pv 1) (pa_cons (pv 5) (pa_cons pe_int pa_nil)))))) (pss_cons (ps_if (pt_cmpR op_gt (pv 6) (pv 8) (nomark _)) (pss_one (ps_ret (pe_tup (pa_cons pe_str (pa_cons (pe_callTy (T := "list") c_list (by rfl) T.b_list (by decide +kernel) (pa_cons (pv 4) pa_nil)) (pa_cons (pv 6) (pa_cons (pv 8) pa_nil))))))) pss_nil) (pss_one (ps_if (pt_cmpR op_lt (pv 6) (pv 9) (nomark _)) (pss_one (ps_ret (pe_tup (pa_cons pe_str (pa_cons (pe_callTy (T := "list") c_list (by rfl) T.b_list (by decide +kernel) (pa_cons (pv 4) pa_nil)) (pa_cons (pv 6) (pa_cons (pv 9) pa_nil))))))) pss_nil)))))))) (pss_one (ps_ret pe_non)))) (fun vs H Q E h => rd_block_fault h)
abbrev st_best_bound : Stmt := top 55
theorem sc_best_bound : FnScope ["plan", "limits", "whole", "sums", "group", "side", "others", "number", "best", "numbers", "nodes", "bound"] ["plan", "limits", "whole", "sums", "group", "side"] (defScope st_best_bound) := ⟨rfl, rfl, rfl, by decide +kernel, rfl, by decide +kernel, by decide +kernel⟩
theorem ok_best_bound (T : Txt mg) (C_sets_of : Cal P w Z.K mg base 2 "sets_of" (sp_sets_of Z)) (C_nodes_of : Cal P w Z.K mg base 2 "nodes_of" (sp_nodes_of Z)) (C_brought_in : Cal P w Z.K mg base 3 "brought_in" (sp_brought_in Z)) (A : At Z.K mg "best_bound" st_best_bound) : Cal P w Z.K mg base 4 "best_bound" (sp_best_bound Z) :=
  cal_mk (k := 3) (t := r_best_bound Z) A sc_best_bound (fun _ _ _ _ => ln_best_bound) (fun _ _ _ _ _ _ us hl => match us, hl with | [_, _, _, _, _, _], _ => rfl) (fun f cdv A outer s H E hr => (pss_cons (ps_setLc (i := 6) (own := [("number", 7)]) (by rfl) sc_best_bound.nd rfl rfl (sw_true rfl rfl rfl (by decide +kernel)) (pi_range1 rfl T.b_range (pa_cons (pe_callB (id := "len") c_len (by rfl) T.b_len (by decide +kernel) (pa_cons (pv 2) pa_nil)) pa_nil)) (blkOk_by (own := [("number", 7)]) (N := nm_best_bound) (sc := defScope st_best_bound) (by decide +kernel)) (fun _ _ _ _ _ => (pg_name (i := 7) sc_best_bound.nd rfl (Or.inl rfl))) (fun _ _ _ _ _ => (pts_one (pt_cmpR op_notIn_seq (pe_ix x_ix (pv 4) pe_int (fun _ _ => rfl)) (pe_ix x_ix (pv 2) (pv 7) (fun _ _ => rfl)) (by with_unfolding_all rfl)))) (fun _ _ _ _ _ => (pv 7))) (pss_cons (ps_set (i := 8) sc_best_bound.nd rfl (.inl rfl) pe_non) (pss_cons (ps_for PassesOwn.never rfl (pi_list (g_call C_sets_of (hr.mono (by decide)) rfl (pa_cons (pv 6) (pa_cons (pe_callB (id := "len") c_len (by rfl) T.b_len (by decide +kernel) (pa_cons (pv 6) pa_nil)) pa_nil)))) (pg_name (i := 9) sc_best_bound.nd rfl (.inl rfl)) (pss_cons (ps_set (i := 10) sc_best_bound.nd rfl (.inl rfl) (pe_op op_cat (pe_callTy (T := "list") c_list (by rfl) T.b_list (by decide +kernel) (pa_cons (pv 4) pa_nil)) (g_call C_nodes_of (hr.mono (by decide)) rfl (pa_cons (pv 2) (pa_cons (pv 9) pa_nil))))) (pss_cons (ps_set (i := 11) sc_best_bound.nd rfl (.inl rfl) (pe_op op_sub (g_call C_brought_in (hr.mono (by decide)) rfl (pa_cons (pv 0) (pa_cons (pv 1) (pa_cons (pv 10) (pa_cons (pv 5) pa_nil))))) (pe_callB (id := "sum") (cr_sum rfl) (by rfl) T.b_sum (by decide +kernel) (pa_cons (pe_lc (own := [("number", 7)]) (by rfl) sc_best_bound.nd (pi_list (pv 9)) (blkOk_by (own := [("number", 7)]) (N := nm_best_bound) (sc := defScope st_best_bound) (by decide +kernel)) (fun _ _ _ _ _ => (pg_name (i := 7) sc_best_bound.nd rfl (Or.inl rfl))) (fun _ _ _ _ _ => pts_nil) (fun _ _ _ _ _ => (pe_ix x_ix (pv 3) (pv 7) (fun _ _ => rfl)))) pa_nil)))) (pss_one (ps_if (PW.pt (pw_or (pt_cmpR o_isN (pv 8) pe_non (nomark _)) (pw_or1 (pt_ifE (pt_cmpR op_eq (pv 5) pe_int (nomark _)) (pt_cmpR op_lt (pv 11) (pe_ix x_ixT (pv 8) pe_int (fun _ _ => rfl)) (nomark _)) (pt_cmpR op_gt (pv 11) (pe_ix x_ixT (pv 8) pe_int (fun _ _ => rfl)) (nomark _)))))) (pss_one (ps_set (i := 8) sc_best_bound.nd rfl (.inl rfl) (pe_tup (pa_cons (pv 11) (pa_cons (pe_callTy (T := "list") c_list (by rfl) T.b_list (by decide +kernel) (pa_cons (pv 9) pa_nil)) pa_nil))))) pss_nil))))) (pss_one (ps_ret (pv 8))))))) (fun vs H Q E h => rd_best_bound h)
abbrev st_ranges_of : Stmt := top 56
theorem sc_ranges_of : FnScope ["plan", "limits", "blocks", "totals", "group", "whole", "sums", "fault", "low", "low_set", "high", "high_set"] ["plan", "limits", "blocks", "totals", "group"] (defScope st_ranges_of) := ⟨rfl, rfl, rfl, by decide +kernel, rfl, by decide +kernel, by decide +kernel⟩
theorem ok_ranges_of (T : Txt mg) (C_check_pair_numbers : Cal P w Z.K mg base 3 "check_pair_numbers" (sp_check_pair_numbers Z)) (C_check_numbers : Cal P w Z.K mg base 2 "check_numbers" (sp_check_numbers Z)) (C_check_plain_lines : Cal P w Z.K mg base 3 "check_plain_lines" (sp_check_plain_lines Z)) (C_check_still : Cal P w Z.K mg base 2 "check_still" (sp_check_still Z)) (C_check_pairs : Cal P w Z.K mg base 4 "check_pairs" (sp_check_pairs Z)) (C_check_blocks : Cal P w Z.K mg base 3 "check_blocks" (sp_check_blocks Z)) (C_whole_list : Cal P w Z.K mg base 3 "whole_list" (sp_whole_list Z)) (C_check_group : Cal P w Z.K mg base 3 "check_group" (sp_check_group Z)) (C_all_blocks : Cal P w Z.K mg base 3 "all_blocks" (sp_all_blocks Z)) (C_block_fault : Cal P w Z.K mg base 4 "block_fault" (sp_block_fault Z)) (C_best_bound : Cal P w Z.K mg base 4 "best_bound" (sp_best_bound Z)) (PC : PlanCls Z) (A : At Z.K mg "ranges_of" st_ranges_of) : Cal P w Z.K mg base 5 "ranges_of" (sp_ranges_of Z) :=
  cal_mk (k := 4) (t := r_ranges_of Z) A sc_ranges_of (fun _ _ _ _ => ln_ranges_of) (fun _ _ _ _ _ _ us hl => match us, hl with | [_, _, _, _, _], _ => rfl) (fun f cdv A outer s H E hr => (pss_cons (ps_expr (g_call C_check_pair_numbers (hr.mono (by decide)) rfl (pa_cons (pv 1) (pa_cons (g_int rfl T.g_NUMBERS) pa_nil)))) (pss_cons (ps_expr (g_call C_check_numbers (hr.mono (by decide)) rfl (pa_cons (pv 3) (pa_cons (g_int rfl T.g_AMOUNTS) pa_nil)))) (pss_cons (ps_expr (g_call C_check_plain_lines (hr.mono (by decide)) rfl (pa_cons (pv 0) pa_nil))) (pss_cons (ps_expr (g_call C_check_still (hr.mono (by decide)) rfl (pa_cons (pv 0) pa_nil))) (pss_cons (ps_expr (g_call C_check_pairs (hr.mono (by decide)) rfl (pa_cons pe_str (pa_cons (pv 1) (pa_cons (pe_callB (id := "len") c_len (by rfl) T.b_len (by decide +kernel) (pa_cons (pe_fld (pv 0) rfl) pa_nil)) (pa_cons pe_int pa_nil)))))) (pss_cons (ps_expr (g_call C_check_blocks (hr.mono (by decide)) rfl (pa_cons (pv 0) (pa_cons (pv 2) pa_nil)))) (pss_cons (ps_if (pt_not (pt_val (g_call C_whole_list (hr.mono (by decide)) rfl (pa_cons (pv 3) (pa_cons (pe_callB (id := "len") c_len (by rfl) T.b_len (by decide +kernel) (pa_cons (pv 2) pa_nil)) pa_nil))))) (pss_one ps_never) pss_nil) (pss_cons (ps_expr (g_call C_check_group (hr.mono (by decide)) rfl (pa_cons (pv 0) (pa_cons (pv 2) (pa_cons (pv 4) pa_nil))))) (pss_cons (ps_set (i := 5) sc_ranges_of.nd rfl (.inl rfl) (g_call C_all_blocks (hr.mono (by decide)) rfl (pa_cons (pv 0) (pa_cons (pv 2) pa_nil)))) (pss_cons (ps_set (i := 6) sc_ranges_of.nd rfl (.inl rfl) (pe_op op_cat (pe_callTy (T := "list") c_list (by rfl) T.b_list (by decide +kernel) (pa_cons (pv 3) pa_nil)) (pe_lst (pa_cons (pe_un un_neg (pe_callB (id := "sum") (cr_sum rfl) (by rfl) T.b_sum (by decide +kernel) (pa_cons (pv 3) pa_nil))) pa_nil)))) (pss_cons (ps_set (i := 7) sc_ranges_of.nd rfl (.inl rfl) (g_call C_block_fault (hr.mono (by decide)) rfl (pa_cons (pv 0) (pa_cons (pv 1) (pa_cons (pv 5) (pa_cons (pv 6) pa_nil)))))) (pss_cons (ps_if (pt_cmpR o_notN (pv 7) pe_non (nomark _)) (pss_one (ps_ret (pv 7))) pss_nil) (pss_cons (ps_asg (g_call C_best_bound (hr.mono (by decide)) rfl (pa_cons (pv 0) (pa_cons (pv 1) (pa_cons (pv 5) (pa_cons (pv 6) (pa_cons (pv 4) (pa_cons pe_int pa_nil))))))) (pg_tup rfl (pgs_cons (pg_name (i := 8) sc_ranges_of.nd rfl (.inl rfl)) (pgs_cons (pg_name (i := 9) sc_ranges_of.nd rfl (.inl rfl)) pgs_nil)))) (pss_cons (ps_asg (g_call C_best_bound (hr.mono (by decide)) rfl (pa_cons (pv 0) (pa_cons (pv 1) (pa_cons (pv 5) (pa_cons (pv 6) (pa_cons (pv 4) (pa_cons pe_int pa_nil))))))) (pg_tup rfl (pgs_cons (pg_name (i := 10) sc_ranges_of.nd rfl (.inl rfl)) (pgs_cons (pg_name (i := 11) sc_ranges_of.nd rfl (.inl rfl)) pgs_nil)))) (pss_one (ps_ret (pe_tup (pa_cons pe_str (pa_cons (pv 8) (pa_cons (pv 10) (pa_cons (pv 9) (pa_cons (pv 11) pa_nil))))))))))))))))))))))) (fun vs H Q E h => rd_ranges_of PC h)
abbrev st_check_most : Stmt := top 17
theorem sc_check_most : FnScope ["what", "many", "most"] ["what", "many", "most"] (defScope st_check_most) := ⟨rfl, rfl, rfl, by decide +kernel, rfl, by decide +kernel, by decide +kernel⟩
theorem ok_check_most (T : Txt mg) (A : At Z.K mg "check_most" st_check_most) : Cal P w Z.K mg base 2 "check_most" (sp_check_most Z) :=
  cal_mk (k := 1) (t := r_check_most Z) A sc_check_most (fun _ _ _ _ => ln_check_most) (fun _ _ _ _ _ _ us hl => match us, hl with | [_, _, _], _ => rfl) (fun f cdv A outer s H E hr => (pss_one (ps_if (PW.pt (pw_and (pt_val (pe_callB (id := "isinstance") call_isi (by rfl) T.b_isinstance (by decide +kernel) (pa_cons (pv 1) (pa_cons (pe_bltn (v := .ty "int") rfl T.b_int (by decide +kernel) rfl) pa_nil)))) (pw_and (pt_not (pt_val (pe_callB (id := "isinstance") call_isi (by rfl) T.b_isinstance (by decide +kernel) (pa_cons (pv 1) (pa_cons (pe_bltn (v := .ty "bool") rfl T.b_bool (by decide +kernel) rfl) pa_nil))))) (pw_and1 (pt_cmpR op_gt (pv 1) (pv 2) (nomark _)))))) (pss_one ps_never) pss_nil))) (fun vs H Q E h => rd_check_most h)
abbrev st_check_counts : Stmt := top 30
theorem sc_check_counts : FnScope ["books", "moments", "lines", "doors", "looks"] ["books", "moments", "lines", "doors", "looks"] (defScope st_check_counts) := ⟨rfl, rfl, rfl, by decide +kernel, rfl, by decide +kernel, by decide +kernel⟩
theorem ok_check_counts (T : Txt mg) (C_check_most : Cal P w Z.K mg base 2 "check_most" (sp_check_most Z)) (A : At Z.K mg "check_counts" st_check_counts) : Cal P w Z.K mg base 3 "check_counts" (sp_check_counts Z) :=
  cal_mk (k := 2) (t := r_check_counts Z) A sc_check_counts (fun _ _ _ _ => ln_check_counts) (fun _ _ _ _ _ _ us hl => match us, hl with | [_, _, _, _, _], _ => rfl) (fun f cdv A outer s H E hr => (pss_cons (ps_expr (g_call C_check_most (hr.mono (by decide)) rfl (pa_cons pe_str (pa_cons (pv 0) (pa_cons (g_int rfl T.g_BOOKS) pa_nil))))) (pss_cons (ps_expr (g_call C_check_most (hr.mono (by decide)) rfl (pa_cons pe_str (pa_cons (pv 1) (pa_cons (g_int rfl T.g_MOMENTS) pa_nil))))) (pss_cons (ps_expr (g_call C_check_most (hr.mono (by decide)) rfl (pa_cons pe_str (pa_cons (pe_callB (id := "len") c_len (by rfl) T.b_len (by decide +kernel) (pa_cons (pv 2) pa_nil)) (pa_cons (g_int rfl T.g_LINES) pa_nil))))) (pss_cons (ps_expr (g_call C_check_most (hr.mono (by decide)) rfl (pa_cons pe_str (pa_cons (pe_callB (id := "len") c_len (by rfl) T.b_len (by decide +kernel) (pa_cons (pv 3) pa_nil)) (pa_cons (g_int rfl T.g_DOORS) pa_nil))))) (pss_one (ps_expr (g_call C_check_most (hr.mono (by decide)) rfl (pa_cons pe_str (pa_cons (pe_callB (id := "len") c_len (by rfl) T.b_len (by decide +kernel) (pa_cons (pv 4) pa_nil)) (pa_cons (g_int rfl T.g_LOOKS) pa_nil))))))))))) (fun vs H Q E h => rd_check_counts h)
abbrev st_check_sizes : Stmt := top 34
theorem sc_check_sizes : FnScope ["books", "moments"] ["books", "moments"] (defScope st_check_sizes) := ⟨rfl, rfl, rfl, by decide +kernel, rfl, by decide +kernel, by decide +kernel⟩
theorem ok_check_sizes (C_is_whole : Cal P w Z.K mg base 2 "is_whole" (sp_is_whole Z)) (A : At Z.K mg "check_sizes" st_check_sizes) : Cal P w Z.K mg base 3 "check_sizes" (sp_check_sizes Z) :=
  cal_mk (k := 2) (t := r_check_sizes Z) A sc_check_sizes (fun _ _ _ _ => ln_check_sizes) (fun _ _ _ _ _ _ us hl => match us, hl with | [_, _], _ => rfl) (fun f cdv A outer s H E hr => (pss_cons (ps_if (PW.pt (pw_or (pt_not (pt_val (g_call C_is_whole (hr.mono (by decide)) rfl (pa_cons (pv 0) pa_nil)))) (pw_or1 (pt_cmpR op_lt (pv 0) pe_int (nomark _))))) (pss_one ps_never) pss_nil) (pss_one (ps_if (PW.pt (pw_or (pt_not (pt_val (g_call C_is_whole (hr.mono (by decide)) rfl (pa_cons (pv 1) pa_nil)))) (pw_or1 (pt_cmpR op_lt (pv 1) pe_int (nomark _))))) (pss_one ps_never) pss_nil)))) (fun vs H Q E h => rd_check_sizes h)
abbrev st_shape_wrong : Stmt := top 31
theorem sc_shape_wrong : FnScope ["shape", "books", "one"] ["shape", "books"] (defScope st_shape_wrong) := ⟨rfl, rfl, rfl, by decide +kernel, rfl, by decide +kernel, by decide +kernel⟩
theorem ok_shape_wrong (C_whole_list : Cal P w Z.K mg base 3 "whole_list" (sp_whole_list Z)) (A : At Z.K mg "shape_wrong" st_shape_wrong) : Cal P w Z.K mg base 4 "shape_wrong" (sp_shape_wrong Z) :=
  cal_mk (k := 3) (t := r_shape_wrong Z) A sc_shape_wrong (fun _ _ _ _ => ln_shape_wrong) (fun _ _ _ _ _ _ us hl => match us, hl with | [_, _], _ => rfl) (fun f cdv A outer s H E hr => (pss_one (ps_ret (pe_or (pe_not (g_call C_whole_list (hr.mono (by decide)) rfl (pa_cons (pv 0) (pa_cons (pv 1) pa_nil)))) (pe_one (pe_cmpR (op_eqD hr.units) (pe_lc (own := [("one", 2)]) (by rfl) sc_shape_wrong.nd (pi_list (pv 0)) (blkOk_by (own := [("one", 2)]) (N := nm_shape_wrong) (sc := defScope st_shape_wrong) (by decide +kernel)) (fun _ _ _ _ _ => (pg_name (i := 2) sc_shape_wrong.nd rfl (Or.inl rfl))) (fun _ _ _ _ _ => (pts_one (pt_cmpR op_ne (pv 2) pe_int (nomark _)))) (fun _ _ _ _ _ => (pv 2))) (pe_lst pa_nil) (nomark _))))))) (fun vs H Q E h => rd_shape_wrong h)
abbrev st_span_wrong : Stmt := top 32
theorem sc_span_wrong : FnScope ["row", "books", "moments", "shape", "first", "last"] ["row", "books", "moments"] (defScope st_span_wrong) := ⟨rfl, rfl, rfl, by decide +kernel, rfl, by decide +kernel, by decide +kernel⟩
theorem ok_span_wrong (C_shape_wrong : Cal P w Z.K mg base 4 "shape_wrong" (sp_shape_wrong Z)) (C_is_whole : Cal P w Z.K mg base 2 "is_whole" (sp_is_whole Z)) (A : At Z.K mg "span_wrong" st_span_wrong) : Cal P w Z.K mg base 5 "span_wrong" (sp_span_wrong Z) :=
  cal_mk (k := 4) (t := r_span_wrong Z) A sc_span_wrong (fun _ _ _ _ => ln_span_wrong) (fun _ _ _ _ _ _ us hl => match us, hl with | [_, _, _], _ => rfl) (fun f cdv A outer s H E hr => (pss_cons (ps_asg (pv 0) (pg_tup rfl (pgs_cons (pg_name (i := 3) sc_span_wrong.nd rfl (.inl rfl)) (pgs_cons (pg_name (i := 4) sc_span_wrong.nd rfl (.inl rfl)) (pgs_cons (pg_name (i := 5) sc_span_wrong.nd rfl (.inl rfl)) pgs_nil))))) (pss_cons (ps_if (PW.pt (pw_or (pt_val (g_call C_shape_wrong (hr.mono (by decide)) rfl (pa_cons (pv 3) (pa_cons (pv 1) pa_nil)))) (pw_or (pt_not (pt_val (g_call C_is_whole (hr.mono (by decide)) rfl (pa_cons (pv 4) pa_nil)))) (pw_or1 (pt_not (pt_val (g_call C_is_whole (hr.mono (by decide)) rfl (pa_cons (pv 5) pa_nil)))))))) (pss_one (ps_ret pe_bl)) pss_nil) (pss_one (ps_ret (pe_not (pe_chain3 op_le op_le op_le pe_int (pv 4) (pv 5) (pv 2)))))))) (fun vs H Q E h => rd_span_wrong h)
abbrev st_look_wrong : Stmt := top 33
theorem sc_look_wrong : FnScope ["row", "books", "moments", "moment", "weights"] ["row", "books", "moments"] (defScope st_look_wrong) := ⟨rfl, rfl, rfl, by decide +kernel, rfl, by decide +kernel, by decide +kernel⟩
theorem ok_look_wrong (C_is_whole : Cal P w Z.K mg base 2 "is_whole" (sp_is_whole Z)) (C_shape_wrong : Cal P w Z.K mg base 4 "shape_wrong" (sp_shape_wrong Z)) (A : At Z.K mg "look_wrong" st_look_wrong) : Cal P w Z.K mg base 5 "look_wrong" (sp_look_wrong Z) :=
  cal_mk (k := 4) (t := r_look_wrong Z) A sc_look_wrong (fun _ _ _ _ => ln_look_wrong) (fun _ _ _ _ _ _ us hl => match us, hl with | [_, _, _], _ => rfl) (fun f cdv A outer s H E hr => (pss_cons (ps_asg (pv 0) (pg_tup rfl (pgs_cons (pg_name (i := 3) sc_look_wrong.nd rfl (.inl rfl)) (pgs_cons (pg_name (i := 4) sc_look_wrong.nd rfl (.inl rfl)) pgs_nil)))) (pss_one (ps_ret (pe_or (pe_not (g_call C_is_whole (hr.mono (by decide)) rfl (pa_cons (pv 3) pa_nil))) (pe_or (pe_not (pe_chain op_le op_le pe_int (pv 3) (pv 2))) (pe_one (g_call C_shape_wrong (hr.mono (by decide)) rfl (pa_cons (pv 4) (pa_cons (pv 1) pa_nil)))))))))) (fun vs H Q E h => rd_look_wrong h)
abbrev st_check_rows : Stmt := top 35
theorem sc_check_rows : FnScope ["books", "moments", "start", "lines", "doors", "looks", "number"] ["books", "moments", "start", "lines", "doors", "looks"] (defScope st_check_rows) := ⟨rfl, rfl, rfl, by decide +kernel, rfl, by decide +kernel, by decide +kernel⟩
theorem ok_check_rows (T : Txt mg) (C_check_sizes : Cal P w Z.K mg base 3 "check_sizes" (sp_check_sizes Z)) (C_whole_list : Cal P w Z.K mg base 3 "whole_list" (sp_whole_list Z)) (C_span_wrong : Cal P w Z.K mg base 5 "span_wrong" (sp_span_wrong Z)) (C_look_wrong : Cal P w Z.K mg base 5 "look_wrong" (sp_look_wrong Z)) (A : At Z.K mg "check_rows" st_check_rows) : Cal P w Z.K mg base 6 "check_rows" (sp_check_rows Z) :=
  cal_mk (k := 5) (t := r_check_rows Z) A sc_check_rows (fun _ _ _ _ => ln_check_rows) (fun _ _ _ _ _ _ us hl => match us, hl with | [_, _, _, _, _, _], _ => rfl) (fun f cdv A outer s H E hr => (pss_cons (ps_expr (g_call C_check_sizes (hr.mono (by decide)) rfl (pa_cons (pv 0) (pa_cons (pv 1) pa_nil)))) (pss_cons (ps_if (pt_not (pt_val (g_call C_whole_list (hr.mono (by decide)) rfl (pa_cons (pv 2) (pa_cons (pv 0) pa_nil))))) (pss_one ps_never) pss_nil) (pss_cons (ps_for PassesOwn.never rfl (pi_range1 rfl T.b_range (pa_cons (pe_callB (id := "len") c_len (by rfl) T.b_len (by decide +kernel) (pa_cons (pv 3) pa_nil)) pa_nil)) (pg_name (i := 6) sc_check_rows.nd rfl (.inl rfl)) (pss_one (ps_if (pt_val (g_call C_span_wrong (hr.mono (by decide)) rfl (pa_cons (pe_ix x_ix (pv 3) (pv 6) (fun _ _ => rfl)) (pa_cons (pv 0) (pa_cons (pv 1) pa_nil))))) (pss_one ps_never) pss_nil))) (pss_cons (ps_for PassesOwn.never rfl (pi_range1 rfl T.b_range (pa_cons (pe_callB (id := "len") c_len (by rfl) T.b_len (by decide +kernel) (pa_cons (pv 4) pa_nil)) pa_nil)) (pg_name (i := 6) sc_check_rows.nd rfl (.inl rfl)) (pss_one (ps_if (pt_val (g_call C_span_wrong (hr.mono (by decide)) rfl (pa_cons (pe_ix x_ix (pv 4) (pv 6) (fun _ _ => rfl)) (pa_cons (pv 0) (pa_cons (pv 1) pa_nil))))) (pss_one ps_never) pss_nil))) (pss_one (ps_for PassesOwn.never rfl (pi_range1 rfl T.b_range (pa_cons (pe_callB (id := "len") c_len (by rfl) T.b_len (by decide +kernel) (pa_cons (pv 5) pa_nil)) pa_nil)) (pg_name (i := 6) sc_check_rows.nd rfl (.inl rfl)) (pss_one (ps_if (pt_val (g_call C_look_wrong (hr.mono (by decide)) rfl (pa_cons (pe_ix x_ix (pv 5) (pv 6) (fun _ _ => rfl)) (pa_cons (pv 0) (pa_cons (pv 1) pa_nil))))) (pss_one ps_never) pss_nil))))))))) (fun vs H Q E h => rd_check_rows h)
abbrev st_copied_spans : Stmt := top 36
theorem sc_copied_spans : FnScope ["rows", "shape", "first", "last"] ["rows"] (defScope st_copied_spans) := ⟨rfl, rfl, rfl, by decide +kernel, rfl, by decide +kernel, by decide +kernel⟩
theorem ok_copied_spans (T : Txt mg) (A : At Z.K mg "copied_spans" st_copied_spans) : Cal P w Z.K mg base 2 "copied_spans" (sp_copied_spans Z) :=
  cal_mk (k := 1) (t := r_copied_spans Z) A sc_copied_spans (fun _ _ _ _ => ln_copied_spans) (fun _ _ _ _ _ _ us hl => match us, hl with | [_], _ => rfl) (fun f cdv A outer s H E hr => (pss_one (ps_ret (pe_lc (own := [("shape", 1), ("first", 2), ("last", 3)]) (by rfl) sc_copied_spans.nd (pi_list (pv 0)) (blkOk_by (own := [("shape", 1), ("first", 2), ("last", 3)]) (N := nm_copied_spans) (sc := defScope st_copied_spans) (by decide +kernel)) (fun _ _ _ _ _ => (pg_tup rfl (pgs_cons (pg_name (i := 1) sc_copied_spans.nd rfl (Or.inl rfl)) (pgs_cons (pg_name (i := 2) sc_copied_spans.nd rfl (Or.inl rfl)) (pgs_cons (pg_name (i := 3) sc_copied_spans.nd rfl (Or.inl rfl)) pgs_nil))))) (fun _ _ _ _ _ => pts_nil) (fun _ _ _ _ _ => (pe_tup (pa_cons (pe_callTy (T := "list") c_list (by rfl) T.b_list (by decide +kernel) (pa_cons (pv 1) pa_nil)) (pa_cons (pv 2) (pa_cons (pv 3) pa_nil))))))))) (fun vs H Q E h => rd_copied_spans h)
abbrev st_copied_looks : Stmt := top 37
theorem sc_copied_looks : FnScope ["rows", "moment", "weights"] ["rows"] (defScope st_copied_looks) := ⟨rfl, rfl, rfl, by decide +kernel, rfl, by decide +kernel, by decide +kernel⟩
theorem ok_copied_looks (T : Txt mg) (A : At Z.K mg "copied_looks" st_copied_looks) : Cal P w Z.K mg base 2 "copied_looks" (sp_copied_looks Z) :=
  cal_mk (k := 1) (t := r_copied_looks Z) A sc_copied_looks (fun _ _ _ _ => ln_copied_looks) (fun _ _ _ _ _ _ us hl => match us, hl with | [_], _ => rfl) (fun f cdv A outer s H E hr => (pss_one (ps_ret (pe_lc (own := [("moment", 1), ("weights", 2)]) (by rfl) sc_copied_looks.nd (pi_list (pv 0)) (blkOk_by (own := [("moment", 1), ("weights", 2)]) (N := nm_copied_looks) (sc := defScope st_copied_looks) (by decide +kernel)) (fun _ _ _ _ _ => (pg_tup rfl (pgs_cons (pg_name (i := 1) sc_copied_looks.nd rfl (Or.inl rfl)) (pgs_cons (pg_name (i := 2) sc_copied_looks.nd rfl (Or.inl rfl)) pgs_nil)))) (fun _ _ _ _ _ => pts_nil) (fun _ _ _ _ _ => (pe_tup (pa_cons (pv 1) (pa_cons (pe_callTy (T := "list") c_list (by rfl) T.b_list (by decide +kernel) (pa_cons (pv 2) pa_nil)) pa_nil)))))))) (fun vs H Q E h => rd_copied_looks h)
abbrev st_Plan___init__ : Stmt := inClass (top 41) 0
theorem sc_Plan___init__ : FnScope ["self", "books", "moments", "start", "lines", "doors", "looks", "row"] ["self", "books", "moments", "start", "lines", "doors", "looks"] (defScope st_Plan___init__) := ⟨rfl, rfl, rfl, by decide +kernel, rfl, by decide +kernel, by decide +kernel⟩
theorem ok_Plan___init__ (T : Txt mg) (C_check_counts : Cal P w Z.K mg base 3 "check_counts" (sp_check_counts Z)) (C_check_numbers : Cal P w Z.K mg base 2 "check_numbers" (sp_check_numbers Z)) (C_check_rows : Cal P w Z.K mg base 6 "check_rows" (sp_check_rows Z)) (C_copied_spans : Cal P w Z.K mg base 2 "copied_spans" (sp_copied_spans Z)) (C_copied_looks : Cal P w Z.K mg base 2 "copied_looks" (sp_copied_looks Z)) (PC : PlanCls Z) (A : AtI Z.K mg (Z.cls "Plan") "Plan" "Plan.__init__" st_Plan___init__) : Mak P w Z.K mg base (Z.cls "Plan") 7 "Plan" (sp_Plan___init__ Z) :=
  mak_mk (k := 6) (t := r_Plan___init__ Z) A sc_Plan___init__ (fun _ _ _ _ => ln_Plan___init__) (fun _ _ _ _ _ _ us hl => match us, hl with | [_, _, _, _, _, _, _], _ => rfl) (fun f cdv A outer s H E hr => (pss_cons (ps_expr (g_call C_check_counts (hr.mono (by decide)) rfl (pa_cons (pv 1) (pa_cons (pv 2) (pa_cons (pv 4) (pa_cons (pv 5) (pa_cons (pv 6) pa_nil))))))) (pss_cons (ps_for PassesOwn.never rfl (pi_list (pe_op op_cat (pe_callTy (T := "list") c_list (by rfl) T.b_list (by decide +kernel) (pa_cons (pv 4) pa_nil)) (pe_callTy (T := "list") c_list (by rfl) T.b_list (by decide +kernel) (pa_cons (pv 5) pa_nil)))) (pg_name (i := 7) sc_Plan___init__.nd rfl (.inl rfl)) (pss_one (ps_expr (g_call C_check_numbers (hr.mono (by decide)) rfl (pa_cons (pe_ix x_ixT (pv 7) pe_int (fun _ _ => rfl)) (pa_cons (g_int rfl T.g_NUMBERS) pa_nil)))))) (pss_cons (ps_for PassesOwn.never rfl (pi_list (pv 6)) (pg_name (i := 7) sc_Plan___init__.nd rfl (.inl rfl)) (pss_one (ps_expr (g_call C_check_numbers (hr.mono (by decide)) rfl (pa_cons (pe_ix x_ixT (pv 7) pe_int (fun _ _ => rfl)) (pa_cons (g_int rfl T.g_NUMBERS) pa_nil)))))) (pss_cons (ps_expr (g_call C_check_numbers (hr.mono (by decide)) rfl (pa_cons (pv 3) (pa_cons (g_int rfl T.g_AMOUNTS) pa_nil)))) (pss_cons (ps_expr (g_call C_check_rows (hr.mono (by decide)) rfl (pa_cons (pv 1) (pa_cons (pv 2) (pa_cons (pv 3) (pa_cons (pv 4) (pa_cons (pv 5) (pa_cons (pv 6) pa_nil)))))))) (pss_cons (ps_fld (pv 0) (pv 1) rfl) (pss_cons (ps_fld (pv 0) (pv 2) rfl) (pss_cons (ps_fld (pv 0) (pe_callTy (T := "list") c_list (by rfl) T.b_list (by decide +kernel) (pa_cons (pv 3) pa_nil)) rfl) (pss_cons (ps_fld (pv 0) (g_call C_copied_spans (hr.mono (by decide)) rfl (pa_cons (pv 4) pa_nil)) rfl) (pss_cons (ps_fld (pv 0) (g_call C_copied_spans (hr.mono (by decide)) rfl (pa_cons (pv 5) pa_nil)) rfl) (pss_one (ps_fld (pv 0) (g_call C_copied_looks (hr.mono (by decide)) rfl (pa_cons (pv 6) pa_nil)) rfl))))))))))))) (fun vs H Q E h => rd_Plan___init__ PC h)
abbrev st_law_plan : Stmt := top 68
theorem sc_law_plan : FnScope ["world"] ["world"] (defScope st_law_plan) := ⟨rfl, rfl, rfl, by decide +kernel, rfl, by decide +kernel, by decide +kernel⟩
theorem ok_law_plan (T : Txt mg) (M_Plan : Mak P w Z.K mg base (Z.cls "Plan") 7 "Plan" (sp_Plan___init__ Z)) (A : At Z.K mg "_law_plan" st_law_plan) : Cal P w Z.K mg base 9 "_law_plan" (sp_law_plan Z) :=
  cal_mk (k := 8) (t := r_law_plan Z) A sc_law_plan (fun _ _ _ _ => ln_law_plan) (fun _ _ _ _ _ _ us hl => match us, hl with | [_], _ => rfl) (fun f cdv A outer s H E hr => (pss_one (ps_ret (g_make M_Plan (hr.mono (by decide)) rfl (pa_cons (pe_ix x_ix (pv 0) pe_int (fun _ _ => rfl)) (pa_cons (pe_ix x_ix (pv 0) pe_int (fun _ _ => rfl)) (pa_cons (pe_callTy (T := "list") c_list (by rfl) T.b_list (by decide +kernel) (pa_cons (pe_ix x_ix (pv 0) pe_int (fun _ _ => rfl)) pa_nil)) (pa_cons (pe_callTy (T := "list") c_list (by rfl) T.b_list (by decide +kernel) (pa_cons (pe_ix x_ix (pv 0) pe_int (fun _ _ => rfl)) pa_nil)) (pa_cons (pe_callTy (T := "list") c_list (by rfl) T.b_list (by decide +kernel) (pa_cons (pe_ix x_ix (pv 0) pe_int (fun _ _ => rfl)) pa_nil)) (pa_cons (pe_callTy (T := "list") c_list (by rfl) T.b_list (by decide +kernel) (pa_cons (pe_ix x_ix (pv 0) pe_int (fun _ _ => rfl)) pa_nil)) pa_nil)))))))))) (fun vs H Q E h => rd_law_plan h)
abbrev st_law_sets : Stmt := top 63
theorem sc_law_sets : FnScope ["things", "most", "found", "level", "size", "longer", "one", "start", "thing"] ["things", "most"] (defScope st_law_sets) := ⟨rfl, rfl, rfl, by decide +kernel, rfl, by decide +kernel, by decide +kernel⟩
theorem ok_law_sets (T : Txt mg) (A : At Z.K mg "_law_sets" st_law_sets) : Cal P w Z.K mg base 2 "_law_sets" (sp_law_sets Z) :=
  cal_mk (k := 1) (t := r_law_sets Z) A sc_law_sets (fun _ _ _ _ => ln_law_sets) (fun _ _ _ _ _ _ us hl => match us, hl with | [_, _], _ => rfl) (fun f cdv A outer s H E hr => (pss_cons (ps_set (i := 2) sc_law_sets.nd rfl (.inl rfl) (pe_lst (pa_cons (pe_lst pa_nil) pa_nil))) (pss_cons (ps_set (i := 3) sc_law_sets.nd rfl (.inl rfl) (pe_lst (pa_cons (pe_lst pa_nil) pa_nil))) (pss_cons (ps_for PassesOwn.never rfl (pi_range1 rfl T.b_range (pa_cons (pe_callB (id := "min") (call_min2 rfl) (by rfl) T.b_min (by decide +kernel) (pa_cons (pv 1) (pa_cons (pe_callB (id := "len") c_len (by rfl) T.b_len (by decide +kernel) (pa_cons (pv 0) pa_nil)) pa_nil))) pa_nil)) (pg_name (i := 4) sc_law_sets.nd rfl (.inl rfl)) (pss_cons (ps_set (i := 5) sc_law_sets.nd rfl (.inl rfl) (pe_lst pa_nil)) (pss_cons (ps_for PassesOwn.never rfl (pi_list (pv 3)) (pg_name (i := 6) sc_law_sets.nd rfl (.inr rfl)) (pss_cons (ps_set (i := 7) sc_law_sets.nd rfl (.inl rfl) (pe_ifExp (pt_cmpR (op_eqD hr.units) (pv 6) (pe_lst pa_nil) (nomark _)) pe_int (pe_op op_add (pe_bm PySem.F.plainAttrs_list PySem.F.slot_list_index PySem.F.type_list_index mt_index (pv 0) (pa_cons (pe_ix x_ix (pv 6) (pe_op op_sub (pe_callB (id := "len") c_len (by rfl) T.b_len (by decide +kernel) (pa_cons (pv 6) pa_nil)) pe_int) (fun _ _ => rfl)) pa_nil)) pe_int))) (pss_one (ps_set (i := 5) sc_law_sets.nd rfl (.inl rfl) (pe_op op_cat (pv 5) (pe_lc (own := [("thing", 8)]) (by rfl) sc_law_sets.nd (pi_list (pe_slice sl_list (pv 0) (po_some (pv 7)) po_none)) (blkOk_by (own := [("thing", 8)]) (N := nm_law_sets) (sc := defScope st_law_sets) (by decide +kernel)) (fun _ _ _ _ _ => (pg_name (i := 8) sc_law_sets.nd rfl (Or.inl rfl))) (fun _ _ _ _ _ => pts_nil) (fun _ _ _ _ _ => (pe_op op_cat (pv 6) (pe_lst (pa_cons (pv 8) pa_nil)))))))))) (pss_cons (ps_set (i := 2) sc_law_sets.nd rfl (.inl rfl) (pe_op op_cat (pv 2) (pv 5))) (pss_one (ps_set (i := 3) sc_law_sets.nd rfl (.inl rfl) (pv 5))))))) (pss_one (ps_ret (pv 2))))))) (fun vs H Q E h => rd_law_sets h)
abbrev st_law_joined_blocks : Stmt := top 73
theorem sc_law_joined_blocks : FnScope ["whole", "numbers", "nodes", "number"] ["whole", "numbers"] (defScope st_law_joined_blocks) := ⟨rfl, rfl, rfl, by decide +kernel, rfl, by decide +kernel, by decide +kernel⟩
theorem ok_law_joined_blocks  (A : At Z.K mg "_law_joined_blocks" st_law_joined_blocks) : Cal P w Z.K mg base 2 "_law_joined_blocks" (sp_law_joined_blocks Z) :=
  cal_mk (k := 1) (t := r_law_joined_blocks Z) A sc_law_joined_blocks (fun _ _ _ _ => ln_law_joined_blocks) (fun _ _ _ _ _ _ us hl => match us, hl with | [_, _], _ => rfl) (fun f cdv A outer s H E hr => (pss_cons (ps_set (i := 2) sc_law_joined_blocks.nd rfl (.inl rfl) (pe_lst pa_nil)) (pss_cons (ps_for PassesOwn.never rfl (pi_list (pv 1)) (pg_name (i := 3) sc_law_joined_blocks.nd rfl (.inl rfl)) (pss_one (ps_set (i := 2) sc_law_joined_blocks.nd rfl (.inl rfl) (pe_op op_cat (pv 2) (pe_ix x_ix (pv 0) (pv 3) (fun _ _ => rfl)))))) (pss_one (ps_ret (pv 2)))))) (fun vs H Q E h => rd_law_joined_blocks h)
abbrev st_law_ends : Stmt := top 69
theorem sc_law_ends : FnScope ["shape", "lows", "place", "highs"] ["shape"] (defScope st_law_ends) := ⟨rfl, rfl, rfl, by decide +kernel, rfl, by decide +kernel, by decide +kernel⟩
theorem ok_law_ends (T : Txt mg) (A : At Z.K mg "_law_ends" st_law_ends) : Cal P w Z.K mg base 2 "_law_ends" (sp_law_ends Z) :=
  cal_mk (k := 1) (t := r_law_ends Z) A sc_law_ends (fun _ _ _ _ => ln_law_ends) (fun _ _ _ _ _ _ us hl => match us, hl with | [_], _ => rfl) (fun f cdv A outer s H E hr => (pss_cons (ps_setLc (i := 1) (own := [("place", 2)]) (by rfl) sc_law_ends.nd rfl rfl (sw_true rfl rfl rfl (by decide +kernel)) (pi_range1 rfl T.b_range (pa_cons (pe_callB (id := "len") c_len (by rfl) T.b_len (by decide +kernel) (pa_cons (pv 0) pa_nil)) pa_nil)) (blkOk_by (own := [("place", 2)]) (N := nm_law_ends) (sc := defScope st_law_ends) (by decide +kernel)) (fun _ _ _ _ _ => (pg_name (i := 2) sc_law_ends.nd rfl (Or.inl rfl))) (fun _ _ _ _ _ => (pts_one (pt_cmpR op_eq (pe_ix x_ix (pv 0) (pv 2) (fun _ _ => rfl)) (pe_un un_neg pe_int) (nomark _)))) (fun _ _ _ _ _ => (pe_op op_add (pv 2) pe_int))) (pss_cons (ps_setLc (i := 3) (own := [("place", 2)]) (by rfl) sc_law_ends.nd rfl rfl (sw_true rfl rfl rfl (by decide +kernel)) (pi_range1 rfl T.b_range (pa_cons (pe_callB (id := "len") c_len (by rfl) T.b_len (by decide +kernel) (pa_cons (pv 0) pa_nil)) pa_nil)) (blkOk_by (own := [("place", 2)]) (N := nm_law_ends) (sc := defScope st_law_ends) (by decide +kernel)) (fun _ _ _ _ _ => (pg_name (i := 2) sc_law_ends.nd rfl (Or.inl rfl))) (fun _ _ _ _ _ => (pts_one (pt_cmpR op_eq (pe_ix x_ix (pv 0) (pv 2) (fun _ _ => rfl)) pe_int (nomark _)))) (fun _ _ _ _ _ => (pe_op op_add (pv 2) pe_int))) (pss_one (ps_ret (pe_tup (pa_cons (pe_ifExp (pt_cmpR op_gt (pe_callB (id := "len") c_len (by rfl) T.b_len (by decide +kernel) (pa_cons (pv 1) pa_nil)) pe_int (nomark _)) (pe_ix x_ix (pv 1) pe_int (fun _ _ => rfl)) pe_int) (pa_cons (pe_ifExp (pt_cmpR op_gt (pe_callB (id := "len") c_len (by rfl) T.b_len (by decide +kernel) (pa_cons (pv 3) pa_nil)) pe_int (nomark _)) (pe_ix x_ix (pv 3) pe_int (fun _ _ => rfl)) pe_int) pa_nil)))))))) (fun vs H Q E h => rd_law_ends h)
abbrev st_law_brought : Stmt := top 72
theorem sc_law_brought : FnScope ["world", "limits", "nodes", "side", "total", "line", "ends"] ["world", "limits", "nodes", "side"] (defScope st_law_brought) := ⟨rfl, rfl, rfl, by decide +kernel, rfl, by decide +kernel, by decide +kernel⟩
theorem ok_law_brought (T : Txt mg) (C_law_ends : Cal P w Z.K mg base 2 "_law_ends" (sp_law_ends Z)) (A : At Z.K mg "_law_brought" st_law_brought) : Cal P w Z.K mg base 3 "_law_brought" (sp_law_brought Z) :=
  cal_mk (k := 2) (t := r_law_brought Z) A sc_law_brought (fun _ _ _ _ => ln_law_brought) (fun _ _ _ _ _ _ us hl => match us, hl with | [_, _, _, _], _ => rfl) (fun f cdv A outer s H E hr => (pss_cons (ps_set (i := 4) sc_law_brought.nd rfl (.inl rfl) pe_int) (pss_cons (ps_for PassesOwn.never rfl (pi_range1 rfl T.b_range (pa_cons (pe_callB (id := "len") c_len (by rfl) T.b_len (by decide +kernel) (pa_cons (pv 1) pa_nil)) pa_nil)) (pg_name (i := 5) sc_law_brought.nd rfl (.inl rfl)) (pss_cons (ps_set (i := 6) sc_law_brought.nd rfl (.inl rfl) (g_call C_law_ends (hr.mono (by decide)) rfl (pa_cons (pe_ix x_ixT (pe_ix x_ix (pe_ix x_ix (pv 0) pe_int (fun _ _ => rfl)) (pv 5) (fun _ _ => rfl)) pe_int (fun _ _ => rfl)) pa_nil))) (pss_cons (ps_if (PW.pt (pw_and (pt_cmpR op_in_seq (pe_ix x_ixT (pv 6) pe_int (fun _ _ => rfl)) (pv 2) (by with_unfolding_all rfl)) (pw_and1 (pt_cmpR op_notIn_seq (pe_ix x_ixT (pv 6) pe_int (fun _ _ => rfl)) (pv 2) (by with_unfolding_all rfl))))) (pss_one (ps_aug (i := 4) sc_law_brought.nd rfl (.inl rfl) (pe_ix x_ixT (pe_ix x_ix (pv 1) (pv 5) (fun _ _ => rfl)) (pv 3) (fun _ _ => rfl)) ip_add)) pss_nil) (pss_one (ps_if (PW.pt (pw_and (pt_cmpR op_in_seq (pe_ix x_ixT (pv 6) pe_int (fun _ _ => rfl)) (pv 2) (by with_unfolding_all rfl)) (pw_and1 (pt_cmpR op_notIn_seq (pe_ix x_ixT (pv 6) pe_int (fun _ _ => rfl)) (pv 2) (by with_unfolding_all rfl))))) (pss_one (ps_aug (i := 4) sc_law_brought.nd rfl (.inl rfl) (pe_ix x_ixT (pe_ix x_ix (pv 1) (pv 5) (fun _ _ => rfl)) (pe_op op_sub pe_int (pv 3)) (fun _ _ => rfl)) ip_sub)) pss_nil))))) (pss_one (ps_ret (pv 4)))))) (fun vs H Q E h => rd_law_brought h)
abbrev st_law_never : Stmt := top 79
theorem sc_law_never : FnScope ["world", "limits", "whole", "sums", "told", "some", "nodes", "total", "number", "most", "least"] ["world", "limits", "whole", "sums", "told"] (defScope st_law_never) := ⟨rfl, rfl, rfl, by decide +kernel, rfl, by decide +kernel, by decide +kernel⟩
theorem ok_law_never (T : Txt mg) (C_law_sets : Cal P w Z.K mg base 2 "_law_sets" (sp_law_sets Z)) (C_law_joined_blocks : Cal P w Z.K mg base 2 "_law_joined_blocks" (sp_law_joined_blocks Z)) (C_law_brought : Cal P w Z.K mg base 3 "_law_brought" (sp_law_brought Z)) (A : At Z.K mg "_law_never" st_law_never) : Cal P w Z.K mg base 4 "_law_never" (sp_law_never Z) :=
  cal_mk (k := 3) (t := r_law_never Z) A sc_law_never (fun _ _ _ _ => ln_law_never) (fun _ _ _ _ _ _ us hl => match us, hl with | [_, _, _, _, _], _ => rfl) (fun f cdv A outer s H E hr => (pss_cons (ps_for PassesOwn.never rfl (pi_list (g_call C_law_sets (hr.mono (by decide)) rfl (pa_cons (pe_listRg rfl rfl T.b_list (prg_1 rfl T.b_range (pe_callB (id := "len") c_len (by rfl) T.b_len (by decide +kernel) (pa_cons (pv 2) pa_nil)))) (pa_cons (pe_callB (id := "len") c_len (by rfl) T.b_len (by decide +kernel) (pa_cons (pv 2) pa_nil)) pa_nil)))) (pg_name (i := 5) sc_law_never.nd rfl (.inl rfl)) (pss_cons (ps_set (i := 6) sc_law_never.nd rfl (.inl rfl) (g_call C_law_joined_blocks (hr.mono (by decide)) rfl (pa_cons (pv 2) (pa_cons (pv 5) pa_nil)))) (pss_cons (ps_set (i := 7) sc_law_never.nd rfl (.inl rfl) (pe_callB (id := "sum") (cr_sum rfl) (by rfl) T.b_sum (by decide +kernel) (pa_cons (pe_lc (own := [("number", 8)]) (by rfl) sc_law_never.nd (pi_list (pv 5)) (blkOk_by (own := [("number", 8)]) (N := nm_law_never) (sc := defScope st_law_never) (by decide +kernel)) (fun _ _ _ _ _ => (pg_name (i := 8) sc_law_never.nd rfl (Or.inl rfl))) (fun _ _ _ _ _ => pts_nil) (fun _ _ _ _ _ => (pe_ix x_ix (pv 3) (pv 8) (fun _ _ => rfl)))) pa_nil))) (pss_cons (ps_set (i := 9) sc_law_never.nd rfl (.inl rfl) (g_call C_law_brought (hr.mono (by decide)) rfl (pa_cons (pv 0) (pa_cons (pv 1) (pa_cons (pv 6) (pa_cons pe_int pa_nil)))))) (pss_cons (ps_set (i := 10) sc_law_never.nd rfl (.inl rfl) (g_call C_law_brought (hr.mono (by decide)) rfl (pa_cons (pv 0) (pa_cons (pv 1) (pa_cons (pv 6) (pa_cons pe_int pa_nil)))))) (pss_one (ps_if (pt_not (pt_chain op_le op_le (pv 10) (pv 7) (pv 9))) (pss_one (ps_ret (pe_cmpR (op_eqD hr.units) (pv 4) (pe_tup (pa_cons pe_str (pa_cons (pv 5) (pa_cons (pv 7) (pa_cons (pe_ifExp (pt_cmpR op_gt (pv 7) (pv 9) (nomark _)) (pv 9) (pv 10)) pa_nil))))) (nomark _)))) pss_nil))))))) (pss_one (ps_ret pe_bl)))) (fun vs H Q E h => rd_law_never h)
abbrev st_law_end_of : Stmt := top 80
theorem sc_law_end_of : FnScope ["world", "limits", "whole", "sums", "group", "side", "some", "nodes", "number"] ["world", "limits", "whole", "sums", "group", "side", "some"] (defScope st_law_end_of) := ⟨rfl, rfl, rfl, by decide +kernel, rfl, by decide +kernel, by decide +kernel⟩
theorem ok_law_end_of (T : Txt mg) (C_law_joined_blocks : Cal P w Z.K mg base 2 "_law_joined_blocks" (sp_law_joined_blocks Z)) (C_law_brought : Cal P w Z.K mg base 3 "_law_brought" (sp_law_brought Z)) (A : At Z.K mg "_law_end_of" st_law_end_of) : Cal P w Z.K mg base 4 "_law_end_of" (sp_law_end_of Z) :=
  cal_mk (k := 3) (t := r_law_end_of Z) A sc_law_end_of (fun _ _ _ _ => ln_law_end_of) (fun _ _ _ _ _ _ us hl => match us, hl with | [_, _, _, _, _, _, _], _ => rfl) (fun f cdv A outer s H E hr => (pss_cons (ps_set (i := 7) sc_law_end_of.nd rfl (.inl rfl) (pe_op op_cat (pv 4) (g_call C_law_joined_blocks (hr.mono (by decide)) rfl (pa_cons (pv 2) (pa_cons (pv 6) pa_nil))))) (pss_one (ps_ret (pe_op op_sub (g_call C_law_brought (hr.mono (by decide)) rfl (pa_cons (pv 0) (pa_cons (pv 1) (pa_cons (pv 7) (pa_cons (pv 5) pa_nil))))) (pe_callB (id := "sum") (cr_sum rfl) (by rfl) T.b_sum (by decide +kernel) (pa_cons (pe_lc (own := [("number", 8)]) (by rfl) sc_law_end_of.nd (pi_list (pv 6)) (blkOk_by (own := [("number", 8)]) (N := nm_law_end_of) (sc := defScope st_law_end_of) (by decide +kernel)) (fun _ _ _ _ _ => (pg_name (i := 8) sc_law_end_of.nd rfl (Or.inl rfl))) (fun _ _ _ _ _ => pts_nil) (fun _ _ _ _ _ => (pe_ix x_ix (pv 3) (pv 8) (fun _ _ => rfl)))) pa_nil))))))) (fun vs H Q E h => rd_law_end_of h)
abbrev st_law_ends_shown : Stmt := top 81
theorem sc_law_ends_shown : FnScope ["world", "limits", "whole", "sums", "group", "told", "others", "number", "side", "found", "some"] ["world", "limits", "whole", "sums", "group", "told"] (defScope st_law_ends_shown) := ⟨rfl, rfl, rfl, by decide +kernel, rfl, by decide +kernel, by decide +kernel⟩
theorem ok_law_ends_shown (T : Txt mg) (C_law_sets : Cal P w Z.K mg base 2 "_law_sets" (sp_law_sets Z)) (C_law_end_of : Cal P w Z.K mg base 4 "_law_end_of" (sp_law_end_of Z)) (A : At Z.K mg "_law_ends_shown" st_law_ends_shown) : Cal P w Z.K mg base 5 "_law_ends_shown" (sp_law_ends_shown Z) :=
  cal_mk (k := 4) (t := r_law_ends_shown Z) A sc_law_ends_shown (fun _ _ _ _ => ln_law_ends_shown) (fun _ _ _ _ _ _ us hl => match us, hl with | [_, _, _, _, _, _], _ => rfl) (fun f cdv A outer s H E hr => (pss_cons (ps_setLc (i := 6) (own := [("number", 7)]) (by rfl) sc_law_ends_shown.nd rfl rfl (sw_true rfl rfl rfl (by decide +kernel)) (pi_range1 rfl T.b_range (pa_cons (pe_callB (id := "len") c_len (by rfl) T.b_len (by decide +kernel) (pa_cons (pv 2) pa_nil)) pa_nil)) (blkOk_by (own := [("number", 7)]) (N := nm_law_ends_shown) (sc := defScope st_law_ends_shown) (by decide +kernel)) (fun _ _ _ _ _ => (pg_name (i := 7) sc_law_ends_shown.nd rfl (Or.inl rfl))) (fun _ _ _ _ _ => (pts_one (pt_cmpR op_notIn_seq (pe_ix x_ix (pv 4) pe_int (fun _ _ => rfl)) (pe_ix x_ix (pv 2) (pv 7) (fun _ _ => rfl)) (by with_unfolding_all rfl)))) (fun _ _ _ _ _ => (pv 7))) (pss_cons (ps_for PassesOwn.never rfl (pi_range1 rfl T.b_range (pa_cons pe_int pa_nil)) (pg_name (i := 8) sc_law_ends_shown.nd rfl (.inl rfl)) (pss_cons (ps_set (i := 9) sc_law_ends_shown.nd rfl (.inl rfl) pe_non) (pss_cons (ps_for PassesOwn.never rfl (pi_list (g_call C_law_sets (hr.mono (by decide)) rfl (pa_cons (pv 6) (pa_cons (pe_callB (id := "len") c_len (by rfl) T.b_len (by decide +kernel) (pa_cons (pv 6) pa_nil)) pa_nil)))) (pg_name (i := 10) sc_law_ends_shown.nd rfl (.inl rfl)) (pss_one (ps_if (PW.pt (pw_and (pt_cmpR o_isN (pv 9) pe_non (nomark _)) (pw_and1 (pt_cmpR op_eq (g_call C_law_end_of (hr.mono (by decide)) rfl (pa_cons (pv 0) (pa_cons (pv 1) (pa_cons (pv 2) (pa_cons (pv 3) (pa_cons (pv 4) (pa_cons (pv 8) (pa_cons (pv 10) pa_nil)))))))) (pe_ix x_ixT (pv 5) (pe_op op_add pe_int (pv 8)) (fun _ _ => rfl)) (nomark _))))) (pss_one (ps_set (i := 9) sc_law_ends_shown.nd rfl (.inl rfl) (pv 10))) pss_nil))) (pss_one (ps_if (PW.pt (pw_or (pt_cmpR o_isN (pv 9) pe_non (nomark _)) (pw_or1 (pt_cmpR (op_neD hr.units) (pe_ix x_ixT (pv 5) (pe_op op_add pe_int (pv 8)) (fun _ _ => rfl)) (pv 9) (nomark _))))) (pss_one (ps_ret pe_bl)) pss_nil))))) (pss_one (ps_ret pe_bl))))) (fun vs H Q E h => rd_law_ends_shown h)
abbrev st_law : Stmt := top 82
theorem sc_law : FnScope ["script", "purse", "books", "moments", "lines", "world", "limits", "row", "least", "sums", "ledgers", "one", "turn", "blocks", "whole", "group", "totals", "full", "given", "block", "told", "fit", "found", "number"] ["script"] (defScope st_law) := ⟨rfl, rfl, rfl, by decide +kernel, rfl, by decide +kernel, by decide +kernel⟩
theorem ok_law (T : Txt mg) (C_law_purse : Cal P w Z.K mg base 2 "_law_purse" (sp_law_purse Z)) (C_law_draw : Cal P w Z.K mg base 33 "_law_draw" (sp_law_draw Z)) (C_law_lines : Cal P w Z.K mg base 35 "_law_lines" (sp_law_lines Z)) (C_law_all_sums : Cal P w Z.K mg base 2 "_law_all_sums" (sp_law_all_sums Z)) (C_law_ledger : Cal P w Z.K mg base 3 "_law_ledger" (sp_law_ledger Z)) (C_law_blocks : Cal P w Z.K mg base 35 "_law_blocks" (sp_law_blocks Z)) (C_law_whole_blocks : Cal P w Z.K mg base 2 "_law_whole_blocks" (sp_law_whole_blocks Z)) (C_law_group : Cal P w Z.K mg base 34 "_law_group" (sp_law_group Z)) (C_law_asked_totals : Cal P w Z.K mg base 34 "_law_asked_totals" (sp_law_asked_totals Z)) (C_ranges_of : Cal P w Z.K mg base 5 "ranges_of" (sp_ranges_of Z)) (C_law_plan : Cal P w Z.K mg base 9 "_law_plan" (sp_law_plan Z)) (C_law_total : Cal P w Z.K mg base 2 "_law_total" (sp_law_total Z)) (C_law_never : Cal P w Z.K mg base 4 "_law_never" (sp_law_never Z)) (C_law_ends_shown : Cal P w Z.K mg base 5 "_law_ends_shown" (sp_law_ends_shown Z)) {fa : Addr} {fd : FuncData} (A : Fun Z.K "law" "law" st_law fa fd) : FnOk P w Z.K mg base CX0 36 fa fd ["script"] (sp_law Z) :=
  fn_mk (k := 35) (t := r_law Z) A sc_law (fun _ _ _ _ => ln_law) (fun f cdv A outer s H E hr => (pss_cons (ps_set (i := 1) sc_law.nd rfl (.inl rfl) (g_call C_law_purse (hr.mono (by decide)) rfl (pa_cons (pv 0) (pa_cons pe_int pa_nil)))) (pss_cons (ps_set (i := 2) sc_law.nd rfl (.inl rfl) (pe_op op_add pe_int (g_call C_law_draw (hr.mono (by decide)) rfl (pa_cons (pv 1) (pa_cons pe_int pa_nil))))) (pss_cons (ps_set (i := 3) sc_law.nd rfl (.inl rfl) (pe_op op_add pe_int (g_call C_law_draw (hr.mono (by decide)) rfl (pa_cons (pv 1) (pa_cons pe_int pa_nil))))) (pss_cons (ps_set (i := 4) sc_law.nd rfl (.inl rfl) (g_call C_law_lines (hr.mono (by decide)) rfl (pa_cons (pv 1) (pa_cons (pv 2) (pa_cons (pv 3) (pa_cons (g_call C_law_draw (hr.mono (by decide)) rfl (pa_cons (pv 1) (pa_cons pe_int pa_nil))) (pa_cons pe_int pa_nil))))))) (pss_cons (ps_set (i := 5) sc_law.nd rfl (.inr rfl) (pe_lst (pa_cons (pv 2) (pa_cons (pv 3) (pa_cons (pe_op op_rep (pe_lst (pa_cons pe_int pa_nil)) (pv 2)) (pa_cons (pv 4) (pa_cons (pe_lst pa_nil) (pa_cons (pe_lst pa_nil) pa_nil)))))))) (pss_cons (ps_set (i := 6) sc_law.nd rfl (.inl rfl) (pe_lst pa_nil)) (pss_cons (ps_for PassesOwn.never rfl (pi_list (pv 4)) (pg_name (i := 7) sc_law.nd rfl (.inl rfl)) (pss_cons (ps_set (i := 8) sc_law.nd rfl (.inl rfl) (pe_op op_sub (g_call C_law_draw (hr.mono (by decide)) rfl (pa_cons (pv 1) (pa_cons pe_int pa_nil))) pe_int)) (pss_one (ps_expr (pe_bm PySem.F.plainAttrs_list PySem.F.slot_list_append PySem.F.type_list_append mt_append (pv 6) (pa_cons (pe_tup (pa_cons (pv 8) (pa_cons (pe_op op_add (pv 8) (g_call C_law_draw (hr.mono (by decide)) rfl (pa_cons (pv 1) (pa_cons pe_int pa_nil)))) pa_nil))) pa_nil)))))) (pss_cons (ps_set (i := 9) sc_law.nd rfl (.inl rfl) (g_call C_law_all_sums (hr.mono (by decide)) rfl (pa_cons (pv 6) pa_nil))) (pss_cons (ps_setLc (i := 10) (own := [("one", 11)]) (by rfl) sc_law.nd rfl rfl (sw_true rfl rfl rfl (by decide +kernel)) (pi_list (pv 9)) (blkOk_by (own := [("one", 11)]) (N := nm_law) (sc := defScope st_law) (by decide +kernel)) (fun _ _ _ _ _ => (pg_name (i := 11) sc_law.nd rfl (Or.inl rfl))) (fun _ _ _ _ _ => pts_nil) (fun _ _ _ _ _ => (g_call C_law_ledger (hr.mono (by decide)) rfl (pa_cons (pv 5) (pa_cons (pv 11) pa_nil))))) (pss_cons (ps_set (i := 1) sc_law.nd rfl (.inl rfl) (g_call C_law_purse (hr.mono (by decide)) rfl (pa_cons (pv 0) (pa_cons pe_int pa_nil)))) (pss_cons (ps_for PassesOwn.never rfl (pi_range1 rfl T.b_range (pa_cons pe_int pa_nil)) (pg_name (i := 12) sc_law.nd rfl (.inl rfl)) (pss_cons (ps_set (i := 13) sc_law.nd rfl (.inr rfl) (g_call C_law_blocks (hr.mono (by decide)) rfl (pa_cons (pv 1) (pa_cons (pv 2) (pa_cons (pe_op op_add pe_int (g_call C_law_draw (hr.mono (by decide)) rfl (pa_cons (pv 1) (pa_cons pe_int pa_nil)))) pa_nil))))) (pss_cons (ps_set (i := 14) sc_law.nd rfl (.inl rfl) (g_call C_law_whole_blocks (hr.mono (by decide)) rfl (pa_cons (pv 2) (pa_cons (pv 13) pa_nil)))) (pss_cons (ps_set (i := 15) sc_law.nd rfl (.inr rfl) (g_call C_law_group (hr.mono (by decide)) rfl (pa_cons (pv 1) (pa_cons (pv 14) pa_nil)))) (pss_cons (ps_set (i := 16) sc_law.nd rfl (.inr rfl) (g_call C_law_asked_totals (hr.mono (by decide)) rfl (pa_cons (pv 1) (pa_cons (pv 5) (pa_cons (pv 13) (pa_cons (pv 9) pa_nil)))))) (pss_one (ps_if (pt_cmpR (op_neD hr.units) (pv 15) (pe_lst pa_nil) (nomark _)) (pss_cons (ps_set (i := 17) sc_law.nd rfl (.inl rfl) (pe_op op_cat (pv 16) (pe_lst (pa_cons (pe_un un_neg (pe_callB (id := "sum") (cr_sum rfl) (by rfl) T.b_sum (by decide +kernel) (pa_cons (pv 16) pa_nil))) pa_nil)))) (pss_cons (ps_set (i := 18) sc_law.nd rfl (.inl rfl) (pe_lst (pa_cons (pe_callTy (T := "list") c_list (by rfl) T.b_list (by decide +kernel) (pa_cons (pv 16) pa_nil)) (pa_cons (pe_callTy (T := "list") c_list (by rfl) T.b_list (by decide +kernel) (pa_cons (pv 15) pa_nil)) (pa_cons (pe_lc (own := [("block", 19)]) (by rfl) sc_law.nd (pi_list (pv 13)) (blkOk_by (own := [("block", 19)]) (N := nm_law) (sc := defScope st_law) (by decide +kernel)) (fun _ _ _ _ _ => (pg_name (i := 19) sc_law.nd rfl (Or.inl rfl))) (fun _ _ _ _ _ => pts_nil) (fun _ _ _ _ _ => (pe_callTy (T := "list") c_list (by rfl) T.b_list (by decide +kernel) (pa_cons (pv 19) pa_nil)))) pa_nil))))) (pss_cons (ps_set (i := 20) sc_law.nd rfl (.inl rfl) (g_call C_ranges_of (hr.mono (by decide)) rfl (pa_cons (g_call C_law_plan (hr.mono (by decide)) rfl (pa_cons (pv 5) pa_nil)) (pa_cons (pe_callTy (T := "list") c_list (by rfl) T.b_list (by decide +kernel) (pa_cons (pv 6) pa_nil)) (pa_cons (pe_ix x_ix (pv 18) pe_int (fun _ _ => rfl)) (pa_cons (pe_ix x_ix (pv 18) pe_int (fun _ _ => rfl)) (pa_cons (pe_ix x_ix (pv 18) pe_int (fun _ _ => rfl)) pa_nil))))))) (pss_cons (ps_if (PW.pt (pw_or (pt_cmpR (op_neD hr.units) (pv 18) (pe_lst (pa_cons (pv 16) (pa_cons (pv 15) (pa_cons (pv 13) pa_nil)))) (nomark _)) (pw_or1 (pt_not (pt_val (pe_callB (id := "isinstance") call_isi (by rfl) T.b_isinstance (by decide +kernel) (pa_cons (pv 20) (pa_cons (pe_bltn (v := .ty "tuple") rfl T.b_tuple (by decide +kernel) rfl) pa_nil)))))))) (pss_one (ps_ret pe_bl)) pss_nil) (pss_cons (ps_setLc (i := 21) (own := [("row", 7)]) (by rfl) sc_law.nd rfl rfl (sw_true rfl rfl rfl (by decide +kernel)) (pi_list (pv 10)) (blkOk_by (own := [("row", 7)]) (N := nm_law) (sc := defScope st_law) (by decide +kernel)) (fun _ _ _ _ _ => (pg_name (i := 7) sc_law.nd rfl (Or.inr rfl))) (fun _ _ _ _ _ => (pts_one (pt_cmpR (op_eqD hr.units) (pe_lc (own := [("block", 19)]) (by rfl) sc_law.nd (pi_list (pv 13)) (blkOk_by (own := [("block", 19)]) (by kernel_rfl)) (fun _ _ _ _ _ => (pg_name (i := 19) sc_law.nd rfl (Or.inl rfl))) (fun _ _ _ _ _ => pts_nil) (fun _ _ _ _ _ => (g_call C_law_total (hr.mono (by decide)) rfl (pa_cons (pv 7) (pa_cons (pv 19) pa_nil))))) (pv 16) (nomark _)))) (fun _ _ _ _ _ => (pv 7))) (pss_cons (ps_set (i := 22) sc_law.nd rfl (.inr rfl) (pe_callB (id := "sorted") cr_sortedI (by rfl) T.b_sorted (by decide +kernel) (pa_cons (pe_lc (own := [("row", 7)]) (by rfl) sc_law.nd (pi_list (pv 21)) (blkOk_by (own := [("row", 7)]) (N := nm_law) (sc := defScope st_law) (by decide +kernel)) (fun _ _ _ _ _ => (pg_name (i := 7) sc_law.nd rfl (Or.inl rfl))) (fun _ _ _ _ _ => pts_nil) (fun _ _ _ _ _ => (g_call C_law_total (hr.mono (by decide)) rfl (pa_cons (pv 7) (pa_cons (pv 15) pa_nil))))) pa_nil))) (pss_one (ps_if (pt_cmpR (op_eqD hr.units) (pv 22) (pe_lst pa_nil) (nomark _)) (pss_one (ps_if (pt_not (pt_val (g_call C_law_never (hr.mono (by decide)) rfl (pa_cons (pv 5) (pa_cons (pv 6) (pa_cons (pv 14) (pa_cons (pv 17) (pa_cons (pv 20) pa_nil)))))))) (pss_one (ps_ret pe_bl)) pss_nil)) (pss_one (ps_if (PW.pt (pw_or (pt_cmpR op_ne (pe_ix x_ixT (pv 20) pe_int (fun _ _ => rfl)) pe_str (nomark _)) (pw_or (pt_cmpR op_ne (pe_callB (id := "len") c_len (by rfl) T.b_len (by decide +kernel) (pa_cons (pv 20) pa_nil)) pe_int (nomark _)) (pw_or (pt_cmpR op_ne (pe_ix x_ixT (pv 20) pe_int (fun _ _ => rfl)) (pe_ix x_ix (pv 22) pe_int (fun _ _ => rfl)) (nomark _)) (pw_or1 (pt_cmpR op_ne (pe_ix x_ixT (pv 20) pe_int (fun _ _ => rfl)) (pe_ix ix_list (pv 22) (pe_un un_neg pe_int) (fun _ _ => rfl)) (nomark _))))))) (pss_one (ps_ret pe_bl)) (pss_one (ps_if (pt_cmpR (op_neD hr.units) (pe_lc (own := [("number", 23)]) (by rfl) sc_law.nd (pi_range2 rfl T.b_range (pa_cons (pe_ix x_ix (pv 22) pe_int (fun _ _ => rfl)) (pa_cons (pe_op op_add (pe_ix ix_list (pv 22) (pe_un un_neg pe_int) (fun _ _ => rfl)) pe_int) pa_nil))) (blkOk_by (own := [("number", 23)]) (N := nm_law) (sc := defScope st_law) (by decide +kernel)) (fun _ _ _ _ _ => (pg_name (i := 23) sc_law.nd rfl (Or.inl rfl))) (fun _ _ _ _ _ => (pts_one (pt_cmpR op_notIn_seq (pv 23) (pv 22) (by with_unfolding_all rfl)))) (fun _ _ _ _ _ => (pv 23))) (pe_lst pa_nil) (nomark _)) (pss_one (ps_ret pe_bl)) (pss_one (ps_if (pt_not (pt_val (g_call C_law_ends_shown (hr.mono (by decide)) rfl (pa_cons (pv 5) (pa_cons (pv 6) (pa_cons (pv 14) (pa_cons (pv 17) (pa_cons (pv 15) (pa_cons (pv 20) pa_nil))))))))) (pss_one (ps_ret pe_bl)) pss_nil)))))))))))))) pss_nil))))))) (pss_one (ps_ret pe_bl)))))))))))))) (fun vs H Q E h => rd_law h)
end
theorem prom_law {K : PySem.W.Frag} {H : Hp} {a : Addr} {ns : List Int} {E : XK} (hl : ns.length ≤ 63) (hS : SqL K H a (ns.map V.int)) : sp_law ⟨K, fun _ => 0⟩ [.ref a] H (fun v _ => v = .bl true) E := ⟨a, ns, rfl, hS, by omega, fun _ => rfl⟩
theorem all_law {P : Program} {w : World} {Z : Ctx} {mg : Str → Option Value} {base : Heap} {fa : Addr} {fd : FuncData}
    (PC : PlanCls Z)
    (K_Plan : Cls Z.K (Z.cls "Plan"))
    (T : Txt mg)
    (hs : base.NoSeer)
    (ht : P.given.tree = none)
    (A_law_purse : At Z.K mg "_law_purse" st_law_purse)
    (A_law_draw : At Z.K mg "_law_draw" st_law_draw)
    (A_law_span : At Z.K mg "_law_span" st_law_span)
    (A_law_plain : At Z.K mg "_law_plain" st_law_plain)
    (A_law_zero : At Z.K mg "_law_zero" st_law_zero)
    (A_law_shape : At Z.K mg "_law_shape" st_law_shape)
    (A_law_lines : At Z.K mg "_law_lines" st_law_lines)
    (A_law_all_sums : At Z.K mg "_law_all_sums" st_law_all_sums)
    (A_law_less : At Z.K mg "_law_less" st_law_less)
    (A_law_ledger : At Z.K mg "_law_ledger" st_law_ledger)
    (A_law_mix : At Z.K mg "_law_mix" st_law_mix)
    (A_law_blocks : At Z.K mg "_law_blocks" st_law_blocks)
    (A_law_whole_blocks : At Z.K mg "_law_whole_blocks" st_law_whole_blocks)
    (A_law_group : At Z.K mg "_law_group" st_law_group)
    (A_law_total : At Z.K mg "_law_total" st_law_total)
    (A_law_asked_totals : At Z.K mg "_law_asked_totals" st_law_asked_totals)
    (A_check_numbers : At Z.K mg "check_numbers" st_check_numbers)
    (A_check_pair_numbers : At Z.K mg "check_pair_numbers" st_check_pair_numbers)
    (A_plain_ends : At Z.K mg "plain_ends" st_plain_ends)
    (A_check_plain_lines : At Z.K mg "check_plain_lines" st_check_plain_lines)
    (A_check_still : At Z.K mg "check_still" st_check_still)
    (A_is_whole : At Z.K mg "is_whole" st_is_whole)
    (A_whole_list : At Z.K mg "whole_list" st_whole_list)
    (A_check_pairs : At Z.K mg "check_pairs" st_check_pairs)
    (A_check_blocks : At Z.K mg "check_blocks" st_check_blocks)
    (A_block_of : At Z.K mg "block_of" st_block_of)
    (A_check_group : At Z.K mg "check_group" st_check_group)
    (A_all_blocks : At Z.K mg "all_blocks" st_all_blocks)
    (A_sets_of : At Z.K mg "sets_of" st_sets_of)
    (A_nodes_of : At Z.K mg "nodes_of" st_nodes_of)
    (A_brought_in : At Z.K mg "brought_in" st_brought_in)
    (A_block_fault : At Z.K mg "block_fault" st_block_fault)
    (A_best_bound : At Z.K mg "best_bound" st_best_bound)
    (A_ranges_of : At Z.K mg "ranges_of" st_ranges_of)
    (A_check_most : At Z.K mg "check_most" st_check_most)
    (A_check_counts : At Z.K mg "check_counts" st_check_counts)
    (A_check_sizes : At Z.K mg "check_sizes" st_check_sizes)
    (A_shape_wrong : At Z.K mg "shape_wrong" st_shape_wrong)
    (A_span_wrong : At Z.K mg "span_wrong" st_span_wrong)
    (A_look_wrong : At Z.K mg "look_wrong" st_look_wrong)
    (A_check_rows : At Z.K mg "check_rows" st_check_rows)
    (A_copied_spans : At Z.K mg "copied_spans" st_copied_spans)
    (A_copied_looks : At Z.K mg "copied_looks" st_copied_looks)
    (A_Plan___init__ : AtI Z.K mg (Z.cls "Plan") "Plan" "Plan.__init__" st_Plan___init__)
    (A_law_plan : At Z.K mg "_law_plan" st_law_plan)
    (A_law_sets : At Z.K mg "_law_sets" st_law_sets)
    (A_law_joined_blocks : At Z.K mg "_law_joined_blocks" st_law_joined_blocks)
    (A_law_ends : At Z.K mg "_law_ends" st_law_ends)
    (A_law_brought : At Z.K mg "_law_brought" st_law_brought)
    (A_law_never : At Z.K mg "_law_never" st_law_never)
    (A_law_end_of : At Z.K mg "_law_end_of" st_law_end_of)
    (A_law_ends_shown : At Z.K mg "_law_ends_shown" st_law_ends_shown)
    (A_law : Fun Z.K "law" "law" st_law fa fd) :
    FnOk P w Z.K mg base CX0 36 fa fd ["script"] (sp_law Z) := by
  have D_law_purse := ok_law_purse (P := P) (w := w) (Z := Z) (mg := mg) (base := base) T A_law_purse
  have D_law_draw := ok_law_draw (P := P) (w := w) (Z := Z) (mg := mg) (base := base) T hs ht A_law_draw
  have D_law_span := ok_law_span (P := P) (w := w) (Z := Z) (mg := mg) (base := base) D_law_draw A_law_span
  have D_law_plain := ok_law_plain (P := P) (w := w) (Z := Z) (mg := mg) (base := base)  A_law_plain
  have D_law_zero := ok_law_zero (P := P) (w := w) (Z := Z) (mg := mg) (base := base) T A_law_zero
  have D_law_shape := ok_law_shape (P := P) (w := w) (Z := Z) (mg := mg) (base := base) T D_law_draw D_law_plain D_law_zero A_law_shape
  have D_law_lines := ok_law_lines (P := P) (w := w) (Z := Z) (mg := mg) (base := base) T D_law_span D_law_shape A_law_lines
  have D_law_all_sums := ok_law_all_sums (P := P) (w := w) (Z := Z) (mg := mg) (base := base) T A_law_all_sums
  have D_law_less := ok_law_less (P := P) (w := w) (Z := Z) (mg := mg) (base := base) T A_law_less
  have D_law_ledger := ok_law_ledger (P := P) (w := w) (Z := Z) (mg := mg) (base := base) T D_law_less A_law_ledger
  have D_law_mix := ok_law_mix (P := P) (w := w) (Z := Z) (mg := mg) (base := base) T D_law_draw A_law_mix
  have D_law_blocks := ok_law_blocks (P := P) (w := w) (Z := Z) (mg := mg) (base := base) T D_law_draw D_law_mix A_law_blocks
  have D_law_whole_blocks := ok_law_whole_blocks (P := P) (w := w) (Z := Z) (mg := mg) (base := base) T A_law_whole_blocks
  have D_law_group := ok_law_group (P := P) (w := w) (Z := Z) (mg := mg) (base := base) T D_law_draw A_law_group
  have D_law_total := ok_law_total (P := P) (w := w) (Z := Z) (mg := mg) (base := base) T A_law_total
  have D_law_asked_totals := ok_law_asked_totals (P := P) (w := w) (Z := Z) (mg := mg) (base := base) T D_law_ledger D_law_draw D_law_total A_law_asked_totals
  have D_check_numbers := ok_check_numbers (P := P) (w := w) (Z := Z) (mg := mg) (base := base) T A_check_numbers
  have D_check_pair_numbers := ok_check_pair_numbers (P := P) (w := w) (Z := Z) (mg := mg) (base := base) T D_check_numbers A_check_pair_numbers
  have D_plain_ends := ok_plain_ends (P := P) (w := w) (Z := Z) (mg := mg) (base := base) T A_plain_ends
  have D_check_plain_lines := ok_check_plain_lines (P := P) (w := w) (Z := Z) (mg := mg) (base := base) T D_plain_ends PC A_check_plain_lines
  have D_check_still := ok_check_still (P := P) (w := w) (Z := Z) (mg := mg) (base := base) PC A_check_still
  have D_is_whole := ok_is_whole (P := P) (w := w) (Z := Z) (mg := mg) (base := base) T A_is_whole
  have D_whole_list := ok_whole_list (P := P) (w := w) (Z := Z) (mg := mg) (base := base) T D_is_whole A_whole_list
  have D_check_pairs := ok_check_pairs (P := P) (w := w) (Z := Z) (mg := mg) (base := base) T D_whole_list A_check_pairs
  have D_check_blocks := ok_check_blocks (P := P) (w := w) (Z := Z) (mg := mg) (base := base) T D_is_whole PC A_check_blocks
  have D_block_of := ok_block_of (P := P) (w := w) (Z := Z) (mg := mg) (base := base) T A_block_of
  have D_check_group := ok_check_group (P := P) (w := w) (Z := Z) (mg := mg) (base := base) T D_is_whole D_block_of PC A_check_group
  have D_all_blocks := ok_all_blocks (P := P) (w := w) (Z := Z) (mg := mg) (base := base) T D_block_of PC A_all_blocks
  have D_sets_of := ok_sets_of (P := P) (w := w) (Z := Z) (mg := mg) (base := base) T A_sets_of
  have D_nodes_of := ok_nodes_of (P := P) (w := w) (Z := Z) (mg := mg) (base := base)  A_nodes_of
  have D_brought_in := ok_brought_in (P := P) (w := w) (Z := Z) (mg := mg) (base := base) T D_plain_ends PC A_brought_in
  have D_block_fault := ok_block_fault (P := P) (w := w) (Z := Z) (mg := mg) (base := base) T D_sets_of D_nodes_of D_brought_in A_block_fault
  have D_best_bound := ok_best_bound (P := P) (w := w) (Z := Z) (mg := mg) (base := base) T D_sets_of D_nodes_of D_brought_in A_best_bound
  have D_ranges_of := ok_ranges_of (P := P) (w := w) (Z := Z) (mg := mg) (base := base) T D_check_pair_numbers D_check_numbers D_check_plain_lines D_check_still D_check_pairs D_check_blocks D_whole_list D_check_group D_all_blocks D_block_fault D_best_bound PC A_ranges_of
  have D_check_most := ok_check_most (P := P) (w := w) (Z := Z) (mg := mg) (base := base) T A_check_most
  have D_check_counts := ok_check_counts (P := P) (w := w) (Z := Z) (mg := mg) (base := base) T D_check_most A_check_counts
  have D_check_sizes := ok_check_sizes (P := P) (w := w) (Z := Z) (mg := mg) (base := base) D_is_whole A_check_sizes
  have D_shape_wrong := ok_shape_wrong (P := P) (w := w) (Z := Z) (mg := mg) (base := base) D_whole_list A_shape_wrong
  have D_span_wrong := ok_span_wrong (P := P) (w := w) (Z := Z) (mg := mg) (base := base) D_shape_wrong D_is_whole A_span_wrong
  have D_look_wrong := ok_look_wrong (P := P) (w := w) (Z := Z) (mg := mg) (base := base) D_is_whole D_shape_wrong A_look_wrong
  have D_check_rows := ok_check_rows (P := P) (w := w) (Z := Z) (mg := mg) (base := base) T D_check_sizes D_whole_list D_span_wrong D_look_wrong A_check_rows
  have D_copied_spans := ok_copied_spans (P := P) (w := w) (Z := Z) (mg := mg) (base := base) T A_copied_spans
  have D_copied_looks := ok_copied_looks (P := P) (w := w) (Z := Z) (mg := mg) (base := base) T A_copied_looks
  have D_Plan___init__ := ok_Plan___init__ (P := P) (w := w) (Z := Z) (mg := mg) (base := base) T D_check_counts D_check_numbers D_check_rows D_copied_spans D_copied_looks PC A_Plan___init__
  have D_law_plan := ok_law_plan (P := P) (w := w) (Z := Z) (mg := mg) (base := base) T D_Plan___init__ A_law_plan
  have D_law_sets := ok_law_sets (P := P) (w := w) (Z := Z) (mg := mg) (base := base) T A_law_sets
  have D_law_joined_blocks := ok_law_joined_blocks (P := P) (w := w) (Z := Z) (mg := mg) (base := base)  A_law_joined_blocks
  have D_law_ends := ok_law_ends (P := P) (w := w) (Z := Z) (mg := mg) (base := base) T A_law_ends
  have D_law_brought := ok_law_brought (P := P) (w := w) (Z := Z) (mg := mg) (base := base) T D_law_ends A_law_brought
  have D_law_never := ok_law_never (P := P) (w := w) (Z := Z) (mg := mg) (base := base) T D_law_sets D_law_joined_blocks D_law_brought A_law_never
  have D_law_end_of := ok_law_end_of (P := P) (w := w) (Z := Z) (mg := mg) (base := base) T D_law_joined_blocks D_law_brought A_law_end_of
  have D_law_ends_shown := ok_law_ends_shown (P := P) (w := w) (Z := Z) (mg := mg) (base := base) T D_law_sets D_law_end_of A_law_ends_shown
  exact ok_law (P := P) (w := w) (Z := Z) (mg := mg) (base := base) T D_law_purse D_law_draw D_law_lines D_law_all_sums D_law_ledger D_law_blocks D_law_whole_blocks D_law_group D_law_asked_totals D_ranges_of D_law_plan D_law_total D_law_never D_law_ends_shown A_law
theorem all_mk {l : PySem.W.OpenLaw} {w : World} {K : PySem.W.Frag} {h : Heap} {mg : Str → Option Value} {fa : Addr} (ht : l.prog.given.tree = none) (X : K.In h) (G : h.Ns mainGlobals mg) (hfa : mg "law" = some (.ref fa))
    {C_Plan : Addr}
    {f0 : Addr} {d0 e0 : Option Addr} {s0 : Array (Option Value)} {v0 w0 x0 y0 z0 u0 : Value}
    {f1 : Addr} {d1 e1 : Option Addr} {s1 : Array (Option Value)} {v1 w1 x1 y1 z1 u1 : Value}
    {f2 : Addr} {d2 e2 : Option Addr} {s2 : Array (Option Value)} {v2 w2 x2 y2 z2 u2 : Value}
    {f3 : Addr} {d3 e3 : Option Addr} {s3 : Array (Option Value)} {v3 w3 x3 y3 z3 u3 : Value}
    {f4 : Addr} {d4 e4 : Option Addr} {s4 : Array (Option Value)} {v4 w4 x4 y4 z4 u4 : Value}
    {f5 : Addr} {d5 e5 : Option Addr} {s5 : Array (Option Value)} {v5 w5 x5 y5 z5 u5 : Value}
    {f6 : Addr} {d6 e6 : Option Addr} {s6 : Array (Option Value)} {v6 w6 x6 y6 z6 u6 : Value}
    {f7 : Addr} {d7 e7 : Option Addr} {s7 : Array (Option Value)} {v7 w7 x7 y7 z7 u7 : Value}
    {f8 : Addr} {d8 e8 : Option Addr} {s8 : Array (Option Value)} {v8 w8 x8 y8 z8 u8 : Value}
    {f9 : Addr} {d9 e9 : Option Addr} {s9 : Array (Option Value)} {v9 w9 x9 y9 z9 u9 : Value}
    {f10 : Addr} {d10 e10 : Option Addr} {s10 : Array (Option Value)} {v10 w10 x10 y10 z10 u10 : Value}
    {f11 : Addr} {d11 e11 : Option Addr} {s11 : Array (Option Value)} {v11 w11 x11 y11 z11 u11 : Value}
    {f12 : Addr} {d12 e12 : Option Addr} {s12 : Array (Option Value)} {v12 w12 x12 y12 z12 u12 : Value}
    {f13 : Addr} {d13 e13 : Option Addr} {s13 : Array (Option Value)} {v13 w13 x13 y13 z13 u13 : Value}
    {f14 : Addr} {d14 e14 : Option Addr} {s14 : Array (Option Value)} {v14 w14 x14 y14 z14 u14 : Value}
    {f15 : Addr} {d15 e15 : Option Addr} {s15 : Array (Option Value)} {v15 w15 x15 y15 z15 u15 : Value}
    {f16 : Addr} {d16 e16 : Option Addr} {s16 : Array (Option Value)} {v16 w16 x16 y16 z16 u16 : Value}
    {f17 : Addr} {d17 e17 : Option Addr} {s17 : Array (Option Value)} {v17 w17 x17 y17 z17 u17 : Value}
    {f18 : Addr} {d18 e18 : Option Addr} {s18 : Array (Option Value)} {v18 w18 x18 y18 z18 u18 : Value}
    {f19 : Addr} {d19 e19 : Option Addr} {s19 : Array (Option Value)} {v19 w19 x19 y19 z19 u19 : Value}
    {f20 : Addr} {d20 e20 : Option Addr} {s20 : Array (Option Value)} {v20 w20 x20 y20 z20 u20 : Value}
    {f21 : Addr} {d21 e21 : Option Addr} {s21 : Array (Option Value)} {v21 w21 x21 y21 z21 u21 : Value}
    {f22 : Addr} {d22 e22 : Option Addr} {s22 : Array (Option Value)} {v22 w22 x22 y22 z22 u22 : Value}
    {f23 : Addr} {d23 e23 : Option Addr} {s23 : Array (Option Value)} {v23 w23 x23 y23 z23 u23 : Value}
    {f24 : Addr} {d24 e24 : Option Addr} {s24 : Array (Option Value)} {v24 w24 x24 y24 z24 u24 : Value}
    {f25 : Addr} {d25 e25 : Option Addr} {s25 : Array (Option Value)} {v25 w25 x25 y25 z25 u25 : Value}
    {f26 : Addr} {d26 e26 : Option Addr} {s26 : Array (Option Value)} {v26 w26 x26 y26 z26 u26 : Value}
    {f27 : Addr} {d27 e27 : Option Addr} {s27 : Array (Option Value)} {v27 w27 x27 y27 z27 u27 : Value}
    {f28 : Addr} {d28 e28 : Option Addr} {s28 : Array (Option Value)} {v28 w28 x28 y28 z28 u28 : Value}
    {f29 : Addr} {d29 e29 : Option Addr} {s29 : Array (Option Value)} {v29 w29 x29 y29 z29 u29 : Value}
    {f30 : Addr} {d30 e30 : Option Addr} {s30 : Array (Option Value)} {v30 w30 x30 y30 z30 u30 : Value}
    {f31 : Addr} {d31 e31 : Option Addr} {s31 : Array (Option Value)} {v31 w31 x31 y31 z31 u31 : Value}
    {f32 : Addr} {d32 e32 : Option Addr} {s32 : Array (Option Value)} {v32 w32 x32 y32 z32 u32 : Value}
    {f33 : Addr} {d33 e33 : Option Addr} {s33 : Array (Option Value)} {v33 w33 x33 y33 z33 u33 : Value}
    {f34 : Addr} {d34 e34 : Option Addr} {s34 : Array (Option Value)} {v34 w34 x34 y34 z34 u34 : Value}
    {f35 : Addr} {d35 e35 : Option Addr} {s35 : Array (Option Value)} {v35 w35 x35 y35 z35 u35 : Value}
    {f36 : Addr} {d36 e36 : Option Addr} {s36 : Array (Option Value)} {v36 w36 x36 y36 z36 u36 : Value}
    {f37 : Addr} {d37 e37 : Option Addr} {s37 : Array (Option Value)} {v37 w37 x37 y37 z37 u37 : Value}
    {f38 : Addr} {d38 e38 : Option Addr} {s38 : Array (Option Value)} {v38 w38 x38 y38 z38 u38 : Value}
    {f39 : Addr} {d39 e39 : Option Addr} {s39 : Array (Option Value)} {v39 w39 x39 y39 z39 u39 : Value}
    {f40 : Addr} {d40 e40 : Option Addr} {s40 : Array (Option Value)} {v40 w40 x40 y40 z40 u40 : Value}
    {f41 : Addr} {d41 e41 : Option Addr} {s41 : Array (Option Value)} {v41 w41 x41 y41 z41 u41 : Value}
    {f42 : Addr} {d42 e42 : Option Addr} {s42 : Array (Option Value)} {v42 w42 x42 y42 z42 u42 : Value}
    {f43 : Addr} {d43 e43 : Option Addr} {s43 : Array (Option Value)} {v43 w43 x43 y43 z43 u43 : Value}
    {f44 : Addr} {d44 e44 : Option Addr} {s44 : Array (Option Value)} {v44 w44 x44 y44 z44 u44 : Value}
    {f45 : Addr} {d45 e45 : Option Addr} {s45 : Array (Option Value)} {v45 w45 x45 y45 z45 u45 : Value}
    {f46 : Addr} {d46 e46 : Option Addr} {s46 : Array (Option Value)} {v46 w46 x46 y46 z46 u46 : Value}
    {f47 : Addr} {d47 e47 : Option Addr} {s47 : Array (Option Value)} {v47 w47 x47 y47 z47 u47 : Value}
    {f48 : Addr} {d48 e48 : Option Addr} {s48 : Array (Option Value)} {v48 w48 x48 y48 z48 u48 : Value}
    {f49 : Addr} {d49 e49 : Option Addr} {s49 : Array (Option Value)} {v49 w49 x49 y49 z49 u49 : Value}
    {f50 : Addr} {d50 e50 : Option Addr} {s50 : Array (Option Value)} {v50 w50 x50 y50 z50 u50 : Value}
    {f51 : Addr} {d51 e51 : Option Addr} {s51 : Array (Option Value)} {v51 w51 x51 y51 z51 u51 : Value}
    {f52 : Addr} {d52 e52 : Option Addr} {s52 : Array (Option Value)} {v52 w52 x52 y52 z52 u52 : Value}
    {t_NUMBERS : Tok}
    {t_AMOUNTS : Tok}
    {t_BOOKS : Tok}
    {t_MOMENTS : Tok}
    {t_LINES : Tok}
    {t_DOORS : Tok}
    {t_LOOKS : Tok}
    (n_Plan : PySem.W.nsIn K mainGlobals "Plan" = some (some (.ref C_Plan)))
    (p_Plan : PySem.W.plainGet K C_Plan Str.empty = true)
    (h_Plan : PySem.W.hasDictIn K C_Plan = true)
    (o_Plan : PySem.W.plainOver K C_Plan = true)
    (s_Plan : PySem.W.findIn K (.ref C_Plan) "__setattr__" = some (some (.builtin "object.__setattr__")))
    (m_Plan : PySem.W.makesIn K C_Plan = true)
    (k_Plan : PySem.W.keepIn K (.ref C_Plan) = true)
    (f_Plan_book_count : PySem.W.findIn K (.ref C_Plan) "book_count" = some none)
    (f_Plan_last_moment : PySem.W.findIn K (.ref C_Plan) "last_moment" = some none)
    (f_Plan_start_row : PySem.W.findIn K (.ref C_Plan) "start_row" = some none)
    (f_Plan_line_list : PySem.W.findIn K (.ref C_Plan) "line_list" = some none)
    (f_Plan_door_list : PySem.W.findIn K (.ref C_Plan) "door_list" = some none)
    (f_Plan_look_list : PySem.W.findIn K (.ref C_Plan) "look_list" = some none)
    (a0 : PySem.W.nsIn K mainGlobals "_law_purse" = some (some (.ref f0)))
    (l0 : K.lookup f0 = some ⟨v0, d0, .func (PySem.W.fnOf "_law_purse" "_law_purse" (defArgs st_law_purse) (defBody st_law_purse) (defScope st_law_purse) .none w0 x0 y0 e0 z0 u0), s0⟩)
    (c0 : PySem.W.codeIn K z0 "_law_purse" = true)
    (k0 : PySem.W.keepIn K (.ref f0) = true)
    (a1 : PySem.W.nsIn K mainGlobals "_law_draw" = some (some (.ref f1)))
    (l1 : K.lookup f1 = some ⟨v1, d1, .func (PySem.W.fnOf "_law_draw" "_law_draw" (defArgs st_law_draw) (defBody st_law_draw) (defScope st_law_draw) .none w1 x1 y1 e1 z1 u1), s1⟩)
    (c1 : PySem.W.codeIn K z1 "_law_draw" = true)
    (k1 : PySem.W.keepIn K (.ref f1) = true)
    (a2 : PySem.W.nsIn K mainGlobals "_law_span" = some (some (.ref f2)))
    (l2 : K.lookup f2 = some ⟨v2, d2, .func (PySem.W.fnOf "_law_span" "_law_span" (defArgs st_law_span) (defBody st_law_span) (defScope st_law_span) .none w2 x2 y2 e2 z2 u2), s2⟩)
    (c2 : PySem.W.codeIn K z2 "_law_span" = true)
    (k2 : PySem.W.keepIn K (.ref f2) = true)
    (a3 : PySem.W.nsIn K mainGlobals "_law_plain" = some (some (.ref f3)))
    (l3 : K.lookup f3 = some ⟨v3, d3, .func (PySem.W.fnOf "_law_plain" "_law_plain" (defArgs st_law_plain) (defBody st_law_plain) (defScope st_law_plain) .none w3 x3 y3 e3 z3 u3), s3⟩)
    (c3 : PySem.W.codeIn K z3 "_law_plain" = true)
    (k3 : PySem.W.keepIn K (.ref f3) = true)
    (a4 : PySem.W.nsIn K mainGlobals "_law_zero" = some (some (.ref f4)))
    (l4 : K.lookup f4 = some ⟨v4, d4, .func (PySem.W.fnOf "_law_zero" "_law_zero" (defArgs st_law_zero) (defBody st_law_zero) (defScope st_law_zero) .none w4 x4 y4 e4 z4 u4), s4⟩)
    (c4 : PySem.W.codeIn K z4 "_law_zero" = true)
    (k4 : PySem.W.keepIn K (.ref f4) = true)
    (a5 : PySem.W.nsIn K mainGlobals "_law_shape" = some (some (.ref f5)))
    (l5 : K.lookup f5 = some ⟨v5, d5, .func (PySem.W.fnOf "_law_shape" "_law_shape" (defArgs st_law_shape) (defBody st_law_shape) (defScope st_law_shape) .none w5 x5 y5 e5 z5 u5), s5⟩)
    (c5 : PySem.W.codeIn K z5 "_law_shape" = true)
    (k5 : PySem.W.keepIn K (.ref f5) = true)
    (a6 : PySem.W.nsIn K mainGlobals "_law_lines" = some (some (.ref f6)))
    (l6 : K.lookup f6 = some ⟨v6, d6, .func (PySem.W.fnOf "_law_lines" "_law_lines" (defArgs st_law_lines) (defBody st_law_lines) (defScope st_law_lines) .none w6 x6 y6 e6 z6 u6), s6⟩)
    (c6 : PySem.W.codeIn K z6 "_law_lines" = true)
    (k6 : PySem.W.keepIn K (.ref f6) = true)
    (a7 : PySem.W.nsIn K mainGlobals "_law_all_sums" = some (some (.ref f7)))
    (l7 : K.lookup f7 = some ⟨v7, d7, .func (PySem.W.fnOf "_law_all_sums" "_law_all_sums" (defArgs st_law_all_sums) (defBody st_law_all_sums) (defScope st_law_all_sums) .none w7 x7 y7 e7 z7 u7), s7⟩)
    (c7 : PySem.W.codeIn K z7 "_law_all_sums" = true)
    (k7 : PySem.W.keepIn K (.ref f7) = true)
    (a8 : PySem.W.nsIn K mainGlobals "_law_less" = some (some (.ref f8)))
    (l8 : K.lookup f8 = some ⟨v8, d8, .func (PySem.W.fnOf "_law_less" "_law_less" (defArgs st_law_less) (defBody st_law_less) (defScope st_law_less) .none w8 x8 y8 e8 z8 u8), s8⟩)
    (c8 : PySem.W.codeIn K z8 "_law_less" = true)
    (k8 : PySem.W.keepIn K (.ref f8) = true)
    (a9 : PySem.W.nsIn K mainGlobals "_law_ledger" = some (some (.ref f9)))
    (l9 : K.lookup f9 = some ⟨v9, d9, .func (PySem.W.fnOf "_law_ledger" "_law_ledger" (defArgs st_law_ledger) (defBody st_law_ledger) (defScope st_law_ledger) .none w9 x9 y9 e9 z9 u9), s9⟩)
    (c9 : PySem.W.codeIn K z9 "_law_ledger" = true)
    (k9 : PySem.W.keepIn K (.ref f9) = true)
    (a10 : PySem.W.nsIn K mainGlobals "_law_mix" = some (some (.ref f10)))
    (l10 : K.lookup f10 = some ⟨v10, d10, .func (PySem.W.fnOf "_law_mix" "_law_mix" (defArgs st_law_mix) (defBody st_law_mix) (defScope st_law_mix) .none w10 x10 y10 e10 z10 u10), s10⟩)
    (c10 : PySem.W.codeIn K z10 "_law_mix" = true)
    (k10 : PySem.W.keepIn K (.ref f10) = true)
    (a11 : PySem.W.nsIn K mainGlobals "_law_blocks" = some (some (.ref f11)))
    (l11 : K.lookup f11 = some ⟨v11, d11, .func (PySem.W.fnOf "_law_blocks" "_law_blocks" (defArgs st_law_blocks) (defBody st_law_blocks) (defScope st_law_blocks) .none w11 x11 y11 e11 z11 u11), s11⟩)
    (c11 : PySem.W.codeIn K z11 "_law_blocks" = true)
    (k11 : PySem.W.keepIn K (.ref f11) = true)
    (a12 : PySem.W.nsIn K mainGlobals "_law_whole_blocks" = some (some (.ref f12)))
    (l12 : K.lookup f12 = some ⟨v12, d12, .func (PySem.W.fnOf "_law_whole_blocks" "_law_whole_blocks" (defArgs st_law_whole_blocks) (defBody st_law_whole_blocks) (defScope st_law_whole_blocks) .none w12 x12 y12 e12 z12 u12), s12⟩)
    (c12 : PySem.W.codeIn K z12 "_law_whole_blocks" = true)
    (k12 : PySem.W.keepIn K (.ref f12) = true)
    (a13 : PySem.W.nsIn K mainGlobals "_law_group" = some (some (.ref f13)))
    (l13 : K.lookup f13 = some ⟨v13, d13, .func (PySem.W.fnOf "_law_group" "_law_group" (defArgs st_law_group) (defBody st_law_group) (defScope st_law_group) .none w13 x13 y13 e13 z13 u13), s13⟩)
    (c13 : PySem.W.codeIn K z13 "_law_group" = true)
    (k13 : PySem.W.keepIn K (.ref f13) = true)
    (a14 : PySem.W.nsIn K mainGlobals "_law_total" = some (some (.ref f14)))
    (l14 : K.lookup f14 = some ⟨v14, d14, .func (PySem.W.fnOf "_law_total" "_law_total" (defArgs st_law_total) (defBody st_law_total) (defScope st_law_total) .none w14 x14 y14 e14 z14 u14), s14⟩)
    (c14 : PySem.W.codeIn K z14 "_law_total" = true)
    (k14 : PySem.W.keepIn K (.ref f14) = true)
    (a15 : PySem.W.nsIn K mainGlobals "_law_asked_totals" = some (some (.ref f15)))
    (l15 : K.lookup f15 = some ⟨v15, d15, .func (PySem.W.fnOf "_law_asked_totals" "_law_asked_totals" (defArgs st_law_asked_totals) (defBody st_law_asked_totals) (defScope st_law_asked_totals) .none w15 x15 y15 e15 z15 u15), s15⟩)
    (c15 : PySem.W.codeIn K z15 "_law_asked_totals" = true)
    (k15 : PySem.W.keepIn K (.ref f15) = true)
    (a16 : PySem.W.nsIn K mainGlobals "check_numbers" = some (some (.ref f16)))
    (l16 : K.lookup f16 = some ⟨v16, d16, .func (PySem.W.fnOf "check_numbers" "check_numbers" (defArgs st_check_numbers) (defBody st_check_numbers) (defScope st_check_numbers) .none w16 x16 y16 e16 z16 u16), s16⟩)
    (c16 : PySem.W.codeIn K z16 "check_numbers" = true)
    (k16 : PySem.W.keepIn K (.ref f16) = true)
    (a17 : PySem.W.nsIn K mainGlobals "check_pair_numbers" = some (some (.ref f17)))
    (l17 : K.lookup f17 = some ⟨v17, d17, .func (PySem.W.fnOf "check_pair_numbers" "check_pair_numbers" (defArgs st_check_pair_numbers) (defBody st_check_pair_numbers) (defScope st_check_pair_numbers) .none w17 x17 y17 e17 z17 u17), s17⟩)
    (c17 : PySem.W.codeIn K z17 "check_pair_numbers" = true)
    (k17 : PySem.W.keepIn K (.ref f17) = true)
    (a18 : PySem.W.nsIn K mainGlobals "plain_ends" = some (some (.ref f18)))
    (l18 : K.lookup f18 = some ⟨v18, d18, .func (PySem.W.fnOf "plain_ends" "plain_ends" (defArgs st_plain_ends) (defBody st_plain_ends) (defScope st_plain_ends) .none w18 x18 y18 e18 z18 u18), s18⟩)
    (c18 : PySem.W.codeIn K z18 "plain_ends" = true)
    (k18 : PySem.W.keepIn K (.ref f18) = true)
    (a19 : PySem.W.nsIn K mainGlobals "check_plain_lines" = some (some (.ref f19)))
    (l19 : K.lookup f19 = some ⟨v19, d19, .func (PySem.W.fnOf "check_plain_lines" "check_plain_lines" (defArgs st_check_plain_lines) (defBody st_check_plain_lines) (defScope st_check_plain_lines) .none w19 x19 y19 e19 z19 u19), s19⟩)
    (c19 : PySem.W.codeIn K z19 "check_plain_lines" = true)
    (k19 : PySem.W.keepIn K (.ref f19) = true)
    (a20 : PySem.W.nsIn K mainGlobals "check_still" = some (some (.ref f20)))
    (l20 : K.lookup f20 = some ⟨v20, d20, .func (PySem.W.fnOf "check_still" "check_still" (defArgs st_check_still) (defBody st_check_still) (defScope st_check_still) .none w20 x20 y20 e20 z20 u20), s20⟩)
    (c20 : PySem.W.codeIn K z20 "check_still" = true)
    (k20 : PySem.W.keepIn K (.ref f20) = true)
    (a21 : PySem.W.nsIn K mainGlobals "is_whole" = some (some (.ref f21)))
    (l21 : K.lookup f21 = some ⟨v21, d21, .func (PySem.W.fnOf "is_whole" "is_whole" (defArgs st_is_whole) (defBody st_is_whole) (defScope st_is_whole) .none w21 x21 y21 e21 z21 u21), s21⟩)
    (c21 : PySem.W.codeIn K z21 "is_whole" = true)
    (k21 : PySem.W.keepIn K (.ref f21) = true)
    (a22 : PySem.W.nsIn K mainGlobals "whole_list" = some (some (.ref f22)))
    (l22 : K.lookup f22 = some ⟨v22, d22, .func (PySem.W.fnOf "whole_list" "whole_list" (defArgs st_whole_list) (defBody st_whole_list) (defScope st_whole_list) .none w22 x22 y22 e22 z22 u22), s22⟩)
    (c22 : PySem.W.codeIn K z22 "whole_list" = true)
    (k22 : PySem.W.keepIn K (.ref f22) = true)
    (a23 : PySem.W.nsIn K mainGlobals "check_pairs" = some (some (.ref f23)))
    (l23 : K.lookup f23 = some ⟨v23, d23, .func (PySem.W.fnOf "check_pairs" "check_pairs" (defArgs st_check_pairs) (defBody st_check_pairs) (defScope st_check_pairs) .none w23 x23 y23 e23 z23 u23), s23⟩)
    (c23 : PySem.W.codeIn K z23 "check_pairs" = true)
    (k23 : PySem.W.keepIn K (.ref f23) = true)
    (a24 : PySem.W.nsIn K mainGlobals "check_blocks" = some (some (.ref f24)))
    (l24 : K.lookup f24 = some ⟨v24, d24, .func (PySem.W.fnOf "check_blocks" "check_blocks" (defArgs st_check_blocks) (defBody st_check_blocks) (defScope st_check_blocks) .none w24 x24 y24 e24 z24 u24), s24⟩)
    (c24 : PySem.W.codeIn K z24 "check_blocks" = true)
    (k24 : PySem.W.keepIn K (.ref f24) = true)
    (a25 : PySem.W.nsIn K mainGlobals "block_of" = some (some (.ref f25)))
    (l25 : K.lookup f25 = some ⟨v25, d25, .func (PySem.W.fnOf "block_of" "block_of" (defArgs st_block_of) (defBody st_block_of) (defScope st_block_of) .none w25 x25 y25 e25 z25 u25), s25⟩)
    (c25 : PySem.W.codeIn K z25 "block_of" = true)
    (k25 : PySem.W.keepIn K (.ref f25) = true)
    (a26 : PySem.W.nsIn K mainGlobals "check_group" = some (some (.ref f26)))
    (l26 : K.lookup f26 = some ⟨v26, d26, .func (PySem.W.fnOf "check_group" "check_group" (defArgs st_check_group) (defBody st_check_group) (defScope st_check_group) .none w26 x26 y26 e26 z26 u26), s26⟩)
    (c26 : PySem.W.codeIn K z26 "check_group" = true)
    (k26 : PySem.W.keepIn K (.ref f26) = true)
    (a27 : PySem.W.nsIn K mainGlobals "all_blocks" = some (some (.ref f27)))
    (l27 : K.lookup f27 = some ⟨v27, d27, .func (PySem.W.fnOf "all_blocks" "all_blocks" (defArgs st_all_blocks) (defBody st_all_blocks) (defScope st_all_blocks) .none w27 x27 y27 e27 z27 u27), s27⟩)
    (c27 : PySem.W.codeIn K z27 "all_blocks" = true)
    (k27 : PySem.W.keepIn K (.ref f27) = true)
    (a28 : PySem.W.nsIn K mainGlobals "sets_of" = some (some (.ref f28)))
    (l28 : K.lookup f28 = some ⟨v28, d28, .func (PySem.W.fnOf "sets_of" "sets_of" (defArgs st_sets_of) (defBody st_sets_of) (defScope st_sets_of) .none w28 x28 y28 e28 z28 u28), s28⟩)
    (c28 : PySem.W.codeIn K z28 "sets_of" = true)
    (k28 : PySem.W.keepIn K (.ref f28) = true)
    (a29 : PySem.W.nsIn K mainGlobals "nodes_of" = some (some (.ref f29)))
    (l29 : K.lookup f29 = some ⟨v29, d29, .func (PySem.W.fnOf "nodes_of" "nodes_of" (defArgs st_nodes_of) (defBody st_nodes_of) (defScope st_nodes_of) .none w29 x29 y29 e29 z29 u29), s29⟩)
    (c29 : PySem.W.codeIn K z29 "nodes_of" = true)
    (k29 : PySem.W.keepIn K (.ref f29) = true)
    (a30 : PySem.W.nsIn K mainGlobals "brought_in" = some (some (.ref f30)))
    (l30 : K.lookup f30 = some ⟨v30, d30, .func (PySem.W.fnOf "brought_in" "brought_in" (defArgs st_brought_in) (defBody st_brought_in) (defScope st_brought_in) .none w30 x30 y30 e30 z30 u30), s30⟩)
    (c30 : PySem.W.codeIn K z30 "brought_in" = true)
    (k30 : PySem.W.keepIn K (.ref f30) = true)
    (a31 : PySem.W.nsIn K mainGlobals "block_fault" = some (some (.ref f31)))
    (l31 : K.lookup f31 = some ⟨v31, d31, .func (PySem.W.fnOf "block_fault" "block_fault" (defArgs st_block_fault) (defBody st_block_fault) (defScope st_block_fault) .none w31 x31 y31 e31 z31 u31), s31⟩)
    (c31 : PySem.W.codeIn K z31 "block_fault" = true)
    (k31 : PySem.W.keepIn K (.ref f31) = true)
    (a32 : PySem.W.nsIn K mainGlobals "best_bound" = some (some (.ref f32)))
    (l32 : K.lookup f32 = some ⟨v32, d32, .func (PySem.W.fnOf "best_bound" "best_bound" (defArgs st_best_bound) (defBody st_best_bound) (defScope st_best_bound) .none w32 x32 y32 e32 z32 u32), s32⟩)
    (c32 : PySem.W.codeIn K z32 "best_bound" = true)
    (k32 : PySem.W.keepIn K (.ref f32) = true)
    (a33 : PySem.W.nsIn K mainGlobals "ranges_of" = some (some (.ref f33)))
    (l33 : K.lookup f33 = some ⟨v33, d33, .func (PySem.W.fnOf "ranges_of" "ranges_of" (defArgs st_ranges_of) (defBody st_ranges_of) (defScope st_ranges_of) .none w33 x33 y33 e33 z33 u33), s33⟩)
    (c33 : PySem.W.codeIn K z33 "ranges_of" = true)
    (k33 : PySem.W.keepIn K (.ref f33) = true)
    (a34 : PySem.W.nsIn K mainGlobals "check_most" = some (some (.ref f34)))
    (l34 : K.lookup f34 = some ⟨v34, d34, .func (PySem.W.fnOf "check_most" "check_most" (defArgs st_check_most) (defBody st_check_most) (defScope st_check_most) .none w34 x34 y34 e34 z34 u34), s34⟩)
    (c34 : PySem.W.codeIn K z34 "check_most" = true)
    (k34 : PySem.W.keepIn K (.ref f34) = true)
    (a35 : PySem.W.nsIn K mainGlobals "check_counts" = some (some (.ref f35)))
    (l35 : K.lookup f35 = some ⟨v35, d35, .func (PySem.W.fnOf "check_counts" "check_counts" (defArgs st_check_counts) (defBody st_check_counts) (defScope st_check_counts) .none w35 x35 y35 e35 z35 u35), s35⟩)
    (c35 : PySem.W.codeIn K z35 "check_counts" = true)
    (k35 : PySem.W.keepIn K (.ref f35) = true)
    (a36 : PySem.W.nsIn K mainGlobals "check_sizes" = some (some (.ref f36)))
    (l36 : K.lookup f36 = some ⟨v36, d36, .func (PySem.W.fnOf "check_sizes" "check_sizes" (defArgs st_check_sizes) (defBody st_check_sizes) (defScope st_check_sizes) .none w36 x36 y36 e36 z36 u36), s36⟩)
    (c36 : PySem.W.codeIn K z36 "check_sizes" = true)
    (k36 : PySem.W.keepIn K (.ref f36) = true)
    (a37 : PySem.W.nsIn K mainGlobals "shape_wrong" = some (some (.ref f37)))
    (l37 : K.lookup f37 = some ⟨v37, d37, .func (PySem.W.fnOf "shape_wrong" "shape_wrong" (defArgs st_shape_wrong) (defBody st_shape_wrong) (defScope st_shape_wrong) .none w37 x37 y37 e37 z37 u37), s37⟩)
    (c37 : PySem.W.codeIn K z37 "shape_wrong" = true)
    (k37 : PySem.W.keepIn K (.ref f37) = true)
    (a38 : PySem.W.nsIn K mainGlobals "span_wrong" = some (some (.ref f38)))
    (l38 : K.lookup f38 = some ⟨v38, d38, .func (PySem.W.fnOf "span_wrong" "span_wrong" (defArgs st_span_wrong) (defBody st_span_wrong) (defScope st_span_wrong) .none w38 x38 y38 e38 z38 u38), s38⟩)
    (c38 : PySem.W.codeIn K z38 "span_wrong" = true)
    (k38 : PySem.W.keepIn K (.ref f38) = true)
    (a39 : PySem.W.nsIn K mainGlobals "look_wrong" = some (some (.ref f39)))
    (l39 : K.lookup f39 = some ⟨v39, d39, .func (PySem.W.fnOf "look_wrong" "look_wrong" (defArgs st_look_wrong) (defBody st_look_wrong) (defScope st_look_wrong) .none w39 x39 y39 e39 z39 u39), s39⟩)
    (c39 : PySem.W.codeIn K z39 "look_wrong" = true)
    (k39 : PySem.W.keepIn K (.ref f39) = true)
    (a40 : PySem.W.nsIn K mainGlobals "check_rows" = some (some (.ref f40)))
    (l40 : K.lookup f40 = some ⟨v40, d40, .func (PySem.W.fnOf "check_rows" "check_rows" (defArgs st_check_rows) (defBody st_check_rows) (defScope st_check_rows) .none w40 x40 y40 e40 z40 u40), s40⟩)
    (c40 : PySem.W.codeIn K z40 "check_rows" = true)
    (k40 : PySem.W.keepIn K (.ref f40) = true)
    (a41 : PySem.W.nsIn K mainGlobals "copied_spans" = some (some (.ref f41)))
    (l41 : K.lookup f41 = some ⟨v41, d41, .func (PySem.W.fnOf "copied_spans" "copied_spans" (defArgs st_copied_spans) (defBody st_copied_spans) (defScope st_copied_spans) .none w41 x41 y41 e41 z41 u41), s41⟩)
    (c41 : PySem.W.codeIn K z41 "copied_spans" = true)
    (k41 : PySem.W.keepIn K (.ref f41) = true)
    (a42 : PySem.W.nsIn K mainGlobals "copied_looks" = some (some (.ref f42)))
    (l42 : K.lookup f42 = some ⟨v42, d42, .func (PySem.W.fnOf "copied_looks" "copied_looks" (defArgs st_copied_looks) (defBody st_copied_looks) (defScope st_copied_looks) .none w42 x42 y42 e42 z42 u42), s42⟩)
    (c42 : PySem.W.codeIn K z42 "copied_looks" = true)
    (k42 : PySem.W.keepIn K (.ref f42) = true)
    (a43 : PySem.W.findIn K (.ref C_Plan) "__init__" = some (some (.ref f43)))
    (i43 : PySem.W.isFn K (.ref f43) = true)
    (l43 : K.lookup f43 = some ⟨v43, d43, .func (PySem.W.fnOf "__init__" "Plan.__init__" (defArgs st_Plan___init__) (defBody st_Plan___init__) (defScope st_Plan___init__) .none w43 x43 y43 e43 z43 u43), s43⟩)
    (c43 : PySem.W.codeIn K z43 "Plan.__init__" = true)
    (k43 : PySem.W.keepIn K (.ref f43) = true)
    (a44 : PySem.W.nsIn K mainGlobals "_law_plan" = some (some (.ref f44)))
    (l44 : K.lookup f44 = some ⟨v44, d44, .func (PySem.W.fnOf "_law_plan" "_law_plan" (defArgs st_law_plan) (defBody st_law_plan) (defScope st_law_plan) .none w44 x44 y44 e44 z44 u44), s44⟩)
    (c44 : PySem.W.codeIn K z44 "_law_plan" = true)
    (k44 : PySem.W.keepIn K (.ref f44) = true)
    (a45 : PySem.W.nsIn K mainGlobals "_law_sets" = some (some (.ref f45)))
    (l45 : K.lookup f45 = some ⟨v45, d45, .func (PySem.W.fnOf "_law_sets" "_law_sets" (defArgs st_law_sets) (defBody st_law_sets) (defScope st_law_sets) .none w45 x45 y45 e45 z45 u45), s45⟩)
    (c45 : PySem.W.codeIn K z45 "_law_sets" = true)
    (k45 : PySem.W.keepIn K (.ref f45) = true)
    (a46 : PySem.W.nsIn K mainGlobals "_law_joined_blocks" = some (some (.ref f46)))
    (l46 : K.lookup f46 = some ⟨v46, d46, .func (PySem.W.fnOf "_law_joined_blocks" "_law_joined_blocks" (defArgs st_law_joined_blocks) (defBody st_law_joined_blocks) (defScope st_law_joined_blocks) .none w46 x46 y46 e46 z46 u46), s46⟩)
    (c46 : PySem.W.codeIn K z46 "_law_joined_blocks" = true)
    (k46 : PySem.W.keepIn K (.ref f46) = true)
    (a47 : PySem.W.nsIn K mainGlobals "_law_ends" = some (some (.ref f47)))
    (l47 : K.lookup f47 = some ⟨v47, d47, .func (PySem.W.fnOf "_law_ends" "_law_ends" (defArgs st_law_ends) (defBody st_law_ends) (defScope st_law_ends) .none w47 x47 y47 e47 z47 u47), s47⟩)
    (c47 : PySem.W.codeIn K z47 "_law_ends" = true)
    (k47 : PySem.W.keepIn K (.ref f47) = true)
    (a48 : PySem.W.nsIn K mainGlobals "_law_brought" = some (some (.ref f48)))
    (l48 : K.lookup f48 = some ⟨v48, d48, .func (PySem.W.fnOf "_law_brought" "_law_brought" (defArgs st_law_brought) (defBody st_law_brought) (defScope st_law_brought) .none w48 x48 y48 e48 z48 u48), s48⟩)
    (c48 : PySem.W.codeIn K z48 "_law_brought" = true)
    (k48 : PySem.W.keepIn K (.ref f48) = true)
    (a49 : PySem.W.nsIn K mainGlobals "_law_never" = some (some (.ref f49)))
    (l49 : K.lookup f49 = some ⟨v49, d49, .func (PySem.W.fnOf "_law_never" "_law_never" (defArgs st_law_never) (defBody st_law_never) (defScope st_law_never) .none w49 x49 y49 e49 z49 u49), s49⟩)
    (c49 : PySem.W.codeIn K z49 "_law_never" = true)
    (k49 : PySem.W.keepIn K (.ref f49) = true)
    (a50 : PySem.W.nsIn K mainGlobals "_law_end_of" = some (some (.ref f50)))
    (l50 : K.lookup f50 = some ⟨v50, d50, .func (PySem.W.fnOf "_law_end_of" "_law_end_of" (defArgs st_law_end_of) (defBody st_law_end_of) (defScope st_law_end_of) .none w50 x50 y50 e50 z50 u50), s50⟩)
    (c50 : PySem.W.codeIn K z50 "_law_end_of" = true)
    (k50 : PySem.W.keepIn K (.ref f50) = true)
    (a51 : PySem.W.nsIn K mainGlobals "_law_ends_shown" = some (some (.ref f51)))
    (l51 : K.lookup f51 = some ⟨v51, d51, .func (PySem.W.fnOf "_law_ends_shown" "_law_ends_shown" (defArgs st_law_ends_shown) (defBody st_law_ends_shown) (defScope st_law_ends_shown) .none w51 x51 y51 e51 z51 u51), s51⟩)
    (c51 : PySem.W.codeIn K z51 "_law_ends_shown" = true)
    (k51 : PySem.W.keepIn K (.ref f51) = true)
    (a52 : PySem.W.nsIn K mainGlobals "law" = some (some (.ref f52)))
    (l52 : K.lookup f52 = some ⟨v52, d52, .func (PySem.W.fnOf "law" "law" (defArgs st_law) (defBody st_law) (defScope st_law) .none w52 x52 y52 e52 z52 u52), s52⟩)
    (c52 : PySem.W.codeIn K z52 "law" = true)
    (k52 : PySem.W.keepIn K (.ref f52) = true)
    (b_len : PySem.W.nsIn K mainGlobals "len" = some none)
    (b_int : PySem.W.nsIn K mainGlobals "int" = some none)
    (b_sum : PySem.W.nsIn K mainGlobals "sum" = some none)
    (b_abs : PySem.W.nsIn K mainGlobals "abs" = some none)
    (b_range : PySem.W.nsIn K mainGlobals "range" = some none)
    (b_list : PySem.W.nsIn K mainGlobals "list" = some none)
    (b_sorted : PySem.W.nsIn K mainGlobals "sorted" = some none)
    (b_isinstance : PySem.W.nsIn K mainGlobals "isinstance" = some none)
    (b_bool : PySem.W.nsIn K mainGlobals "bool" = some none)
    (b_tuple : PySem.W.nsIn K mainGlobals "tuple" = some none)
    (b_min : PySem.W.nsIn K mainGlobals "min" = some none)
    (g_NUMBERS : PySem.W.nsIn K mainGlobals "NUMBERS" = some (some (.int 1000000 t_NUMBERS)))
    (g_AMOUNTS : PySem.W.nsIn K mainGlobals "AMOUNTS" = some (some (.int 1000000000000000000000000000000 t_AMOUNTS)))
    (g_BOOKS : PySem.W.nsIn K mainGlobals "BOOKS" = some (some (.int 9 t_BOOKS)))
    (g_MOMENTS : PySem.W.nsIn K mainGlobals "MOMENTS" = some (some (.int 40 t_MOMENTS)))
    (g_LINES : PySem.W.nsIn K mainGlobals "LINES" = some (some (.int 24 t_LINES)))
    (g_DOORS : PySem.W.nsIn K mainGlobals "DOORS" = some (some (.int 24 t_DOORS)))
    (g_LOOKS : PySem.W.nsIn K mainGlobals "LOOKS" = some (some (.int 60 t_LOOKS))) :
    ∃ fd : FuncData, (∀ (s : Shared) (v : Value), BindsTo s fd ⟨[v], []⟩ [("script", v)]) ∧ ∀ base : Heap, K.In base → base.Ns mainGlobals mg → base.NoSeer → FnOk l.prog w K mg base CX0 36 fa fd ["script"] (sp_law ⟨K, fun _ => 0⟩) := by
  have e := hfa.symm.trans (PySem.W.mg_of X G a52)
  cases e
  refine ⟨PySem.W.fnOf "law" "law" (defArgs st_law) (defBody st_law) (defScope st_law) .none w52 x52 y52 e52 z52 u52, fun s v => .of_eq rfl, fun base _ _ hs => ?_⟩
  exact all_law (Z := ⟨K, fun x => C_Plan⟩)
    ⟨⟨p_Plan, h_Plan, o_Plan, s_Plan⟩, f_Plan_book_count, f_Plan_last_moment, f_Plan_start_row, f_Plan_line_list, f_Plan_door_list, f_Plan_look_list⟩
    ⟨p_Plan, h_Plan, o_Plan, s_Plan⟩
    ⟨PySem.W.mg_none_of X G b_len, PySem.W.mg_none_of X G b_int, PySem.W.mg_none_of X G b_sum, PySem.W.mg_none_of X G b_abs, PySem.W.mg_none_of X G b_range, PySem.W.mg_none_of X G b_list, PySem.W.mg_none_of X G b_sorted, PySem.W.mg_none_of X G b_isinstance, PySem.W.mg_none_of X G b_bool, PySem.W.mg_none_of X G b_tuple, PySem.W.mg_none_of X G b_min, t_NUMBERS, PySem.W.mg_of X G g_NUMBERS, t_AMOUNTS, PySem.W.mg_of X G g_AMOUNTS, t_BOOKS, PySem.W.mg_of X G g_BOOKS, t_MOMENTS, PySem.W.mg_of X G g_MOMENTS, t_LINES, PySem.W.mg_of X G g_LINES, t_DOORS, PySem.W.mg_of X G g_DOORS, t_LOOKS, PySem.W.mg_of X G g_LOOKS⟩
    hs
    ht
    ⟨f0, _, fun_mk (st := st_law_purse) l0 c0 k0, PySem.W.mg_of X G a0⟩
    ⟨f1, _, fun_mk (st := st_law_draw) l1 c1 k1, PySem.W.mg_of X G a1⟩
    ⟨f2, _, fun_mk (st := st_law_span) l2 c2 k2, PySem.W.mg_of X G a2⟩
    ⟨f3, _, fun_mk (st := st_law_plain) l3 c3 k3, PySem.W.mg_of X G a3⟩
    ⟨f4, _, fun_mk (st := st_law_zero) l4 c4 k4, PySem.W.mg_of X G a4⟩
    ⟨f5, _, fun_mk (st := st_law_shape) l5 c5 k5, PySem.W.mg_of X G a5⟩
    ⟨f6, _, fun_mk (st := st_law_lines) l6 c6 k6, PySem.W.mg_of X G a6⟩
    ⟨f7, _, fun_mk (st := st_law_all_sums) l7 c7 k7, PySem.W.mg_of X G a7⟩
    ⟨f8, _, fun_mk (st := st_law_less) l8 c8 k8, PySem.W.mg_of X G a8⟩
    ⟨f9, _, fun_mk (st := st_law_ledger) l9 c9 k9, PySem.W.mg_of X G a9⟩
    ⟨f10, _, fun_mk (st := st_law_mix) l10 c10 k10, PySem.W.mg_of X G a10⟩
    ⟨f11, _, fun_mk (st := st_law_blocks) l11 c11 k11, PySem.W.mg_of X G a11⟩
    ⟨f12, _, fun_mk (st := st_law_whole_blocks) l12 c12 k12, PySem.W.mg_of X G a12⟩
    ⟨f13, _, fun_mk (st := st_law_group) l13 c13 k13, PySem.W.mg_of X G a13⟩
    ⟨f14, _, fun_mk (st := st_law_total) l14 c14 k14, PySem.W.mg_of X G a14⟩
    ⟨f15, _, fun_mk (st := st_law_asked_totals) l15 c15 k15, PySem.W.mg_of X G a15⟩
    ⟨f16, _, fun_mk (st := st_check_numbers) l16 c16 k16, PySem.W.mg_of X G a16⟩
    ⟨f17, _, fun_mk (st := st_check_pair_numbers) l17 c17 k17, PySem.W.mg_of X G a17⟩
    ⟨f18, _, fun_mk (st := st_plain_ends) l18 c18 k18, PySem.W.mg_of X G a18⟩
    ⟨f19, _, fun_mk (st := st_check_plain_lines) l19 c19 k19, PySem.W.mg_of X G a19⟩
    ⟨f20, _, fun_mk (st := st_check_still) l20 c20 k20, PySem.W.mg_of X G a20⟩
    ⟨f21, _, fun_mk (st := st_is_whole) l21 c21 k21, PySem.W.mg_of X G a21⟩
    ⟨f22, _, fun_mk (st := st_whole_list) l22 c22 k22, PySem.W.mg_of X G a22⟩
    ⟨f23, _, fun_mk (st := st_check_pairs) l23 c23 k23, PySem.W.mg_of X G a23⟩
    ⟨f24, _, fun_mk (st := st_check_blocks) l24 c24 k24, PySem.W.mg_of X G a24⟩
    ⟨f25, _, fun_mk (st := st_block_of) l25 c25 k25, PySem.W.mg_of X G a25⟩
    ⟨f26, _, fun_mk (st := st_check_group) l26 c26 k26, PySem.W.mg_of X G a26⟩
    ⟨f27, _, fun_mk (st := st_all_blocks) l27 c27 k27, PySem.W.mg_of X G a27⟩
    ⟨f28, _, fun_mk (st := st_sets_of) l28 c28 k28, PySem.W.mg_of X G a28⟩
    ⟨f29, _, fun_mk (st := st_nodes_of) l29 c29 k29, PySem.W.mg_of X G a29⟩
    ⟨f30, _, fun_mk (st := st_brought_in) l30 c30 k30, PySem.W.mg_of X G a30⟩
    ⟨f31, _, fun_mk (st := st_block_fault) l31 c31 k31, PySem.W.mg_of X G a31⟩
    ⟨f32, _, fun_mk (st := st_best_bound) l32 c32 k32, PySem.W.mg_of X G a32⟩
    ⟨f33, _, fun_mk (st := st_ranges_of) l33 c33 k33, PySem.W.mg_of X G a33⟩
    ⟨f34, _, fun_mk (st := st_check_most) l34 c34 k34, PySem.W.mg_of X G a34⟩
    ⟨f35, _, fun_mk (st := st_check_counts) l35 c35 k35, PySem.W.mg_of X G a35⟩
    ⟨f36, _, fun_mk (st := st_check_sizes) l36 c36 k36, PySem.W.mg_of X G a36⟩
    ⟨f37, _, fun_mk (st := st_shape_wrong) l37 c37 k37, PySem.W.mg_of X G a37⟩
    ⟨f38, _, fun_mk (st := st_span_wrong) l38 c38 k38, PySem.W.mg_of X G a38⟩
    ⟨f39, _, fun_mk (st := st_look_wrong) l39 c39 k39, PySem.W.mg_of X G a39⟩
    ⟨f40, _, fun_mk (st := st_check_rows) l40 c40 k40, PySem.W.mg_of X G a40⟩
    ⟨f41, _, fun_mk (st := st_copied_spans) l41 c41 k41, PySem.W.mg_of X G a41⟩
    ⟨f42, _, fun_mk (st := st_copied_looks) l42 c42 k42, PySem.W.mg_of X G a42⟩
    ⟨f43, _, fun_mk (st := st_Plan___init__) l43 c43 k43, ⟨m_Plan, a43, i43, k_Plan⟩, PySem.W.mg_of X G n_Plan⟩
    ⟨f44, _, fun_mk (st := st_law_plan) l44 c44 k44, PySem.W.mg_of X G a44⟩
    ⟨f45, _, fun_mk (st := st_law_sets) l45 c45 k45, PySem.W.mg_of X G a45⟩
    ⟨f46, _, fun_mk (st := st_law_joined_blocks) l46 c46 k46, PySem.W.mg_of X G a46⟩
    ⟨f47, _, fun_mk (st := st_law_ends) l47 c47 k47, PySem.W.mg_of X G a47⟩
    ⟨f48, _, fun_mk (st := st_law_brought) l48 c48 k48, PySem.W.mg_of X G a48⟩
    ⟨f49, _, fun_mk (st := st_law_never) l49 c49 k49, PySem.W.mg_of X G a49⟩
    ⟨f50, _, fun_mk (st := st_law_end_of) l50 c50 k50, PySem.W.mg_of X G a50⟩
    ⟨f51, _, fun_mk (st := st_law_ends_shown) l51 c51 k51, PySem.W.mg_of X G a51⟩
    (fun_mk (st := st_law) l52 c52 k52)
end G
end
section
set_option Elab.async false
set_option linter.all false
set_option maxRecDepth 100000
set_option maxHeartbeats 4000000
open PySem PySem.W PyProof.Rows G
set_option maxHeartbeats 0 in
theorem PySem.Challenge.cw_closedright_k91_whole_ranges_against_all_holds : PySem.Challenge.rw_closedright_k91_whole_ranges_against_all.Holds := by
  refine hd ?_
  k_fill
  refine walk_law (l := PySem.Challenge.rw_closedright_k91_whole_ranges_against_all) (n := 63) (k := 36) (x := "script") (sp := fun K => sp_law ⟨K, fun _ => 0⟩) rfl (by decide) rfl ⟨rfl, by decide, by decide⟩ (by decide +kernel) (fun w h Y => PySem.W.kIn_of Y) ?F (fun _ _ a ns hl hS => prom_law hl hS)
  case F =>
    intro w mg fa h KX G hmg
    refine' all_mk rfl KX G hmg ?n_Plan ?p_Plan ?h_Plan ?o_Plan ?s_Plan ?m_Plan ?k_Plan ?f_Plan_book_count ?f_Plan_last_moment ?f_Plan_start_row ?f_Plan_line_list ?f_Plan_door_list ?f_Plan_look_list ?a0 ?l0 ?c0 ?k0 ?a1 ?l1 ?c1 ?k1 ?a2 ?l2 ?c2 ?k2 ?a3 ?l3 ?c3 ?k3 ?a4 ?l4 ?c4 ?k4 ?a5 ?l5 ?c5 ?k5 ?a6 ?l6 ?c6 ?k6 ?a7 ?l7 ?c7 ?k7 ?a8 ?l8 ?c8 ?k8 ?a9 ?l9 ?c9 ?k9 ?a10 ?l10 ?c10 ?k10 ?a11 ?l11 ?c11 ?k11 ?a12 ?l12 ?c12 ?k12 ?a13 ?l13 ?c13 ?k13 ?a14 ?l14 ?c14 ?k14 ?a15 ?l15 ?c15 ?k15 ?a16 ?l16 ?c16 ?k16 ?a17 ?l17 ?c17 ?k17 ?a18 ?l18 ?c18 ?k18 ?a19 ?l19 ?c19 ?k19 ?a20 ?l20 ?c20 ?k20 ?a21 ?l21 ?c21 ?k21 ?a22 ?l22 ?c22 ?k22 ?a23 ?l23 ?c23 ?k23 ?a24 ?l24 ?c24 ?k24 ?a25 ?l25 ?c25 ?k25 ?a26 ?l26 ?c26 ?k26 ?a27 ?l27 ?c27 ?k27 ?a28 ?l28 ?c28 ?k28 ?a29 ?l29 ?c29 ?k29 ?a30 ?l30 ?c30 ?k30 ?a31 ?l31 ?c31 ?k31 ?a32 ?l32 ?c32 ?k32 ?a33 ?l33 ?c33 ?k33 ?a34 ?l34 ?c34 ?k34 ?a35 ?l35 ?c35 ?k35 ?a36 ?l36 ?c36 ?k36 ?a37 ?l37 ?c37 ?k37 ?a38 ?l38 ?c38 ?k38 ?a39 ?l39 ?c39 ?k39 ?a40 ?l40 ?c40 ?k40 ?a41 ?l41 ?c41 ?k41 ?a42 ?l42 ?c42 ?k42 ?a43 ?i43 ?l43 ?c43 ?k43 ?a44 ?l44 ?c44 ?k44 ?a45 ?l45 ?c45 ?k45 ?a46 ?l46 ?c46 ?k46 ?a47 ?l47 ?c47 ?k47 ?a48 ?l48 ?c48 ?k48 ?a49 ?l49 ?c49 ?k49 ?a50 ?l50 ?c50 ?k50 ?a51 ?l51 ?c51 ?k51 ?a52 ?l52 ?c52 ?k52 ?b_len ?b_int ?b_sum ?b_abs ?b_range ?b_list ?b_sorted ?b_isinstance ?b_bool ?b_tuple ?b_min ?g_NUMBERS ?g_AMOUNTS ?g_BOOKS ?g_MOMENTS ?g_LINES ?g_DOORS ?g_LOOKS
    (case n_Plan => k_is)
    (case p_Plan => k_is)
    (case h_Plan => k_is)
    (case o_Plan => k_is)
    (case s_Plan => k_is)
    (case m_Plan => k_is)
    (case k_Plan => k_is)
    (case f_Plan_book_count => k_is)
    (case f_Plan_last_moment => k_is)
    (case f_Plan_start_row => k_is)
    (case f_Plan_line_list => k_is)
    (case f_Plan_door_list => k_is)
    (case f_Plan_look_list => k_is)
    (case a0 => k_is)
    (case l0 => k_is)
    (case c0 => k_is)
    (case k0 => k_is)
    (case a1 => k_is)
    (case l1 => k_is)
    (case c1 => k_is)
    (case k1 => k_is)
    (case a2 => k_is)
    (case l2 => k_is)
    (case c2 => k_is)
    (case k2 => k_is)
    (case a3 => k_is)
    (case l3 => k_is)
    (case c3 => k_is)
    (case k3 => k_is)
    (case a4 => k_is)
    (case l4 => k_is)
    (case c4 => k_is)
    (case k4 => k_is)
    (case a5 => k_is)
    (case l5 => k_is)
    (case c5 => k_is)
    (case k5 => k_is)
    (case a6 => k_is)
    (case l6 => k_is)
    (case c6 => k_is)
    (case k6 => k_is)
    (case a7 => k_is)
    (case l7 => k_is)
    (case c7 => k_is)
    (case k7 => k_is)
    (case a8 => k_is)
    (case l8 => k_is)
    (case c8 => k_is)
    (case k8 => k_is)
    (case a9 => k_is)
    (case l9 => k_is)
    (case c9 => k_is)
    (case k9 => k_is)
    (case a10 => k_is)
    (case l10 => k_is)
    (case c10 => k_is)
    (case k10 => k_is)
    (case a11 => k_is)
    (case l11 => k_is)
    (case c11 => k_is)
    (case k11 => k_is)
    (case a12 => k_is)
    (case l12 => k_is)
    (case c12 => k_is)
    (case k12 => k_is)
    (case a13 => k_is)
    (case l13 => k_is)
    (case c13 => k_is)
    (case k13 => k_is)
    (case a14 => k_is)
    (case l14 => k_is)
    (case c14 => k_is)
    (case k14 => k_is)
    (case a15 => k_is)
    (case l15 => k_is)
    (case c15 => k_is)
    (case k15 => k_is)
    (case a16 => k_is)
    (case l16 => k_is)
    (case c16 => k_is)
    (case k16 => k_is)
    (case a17 => k_is)
    (case l17 => k_is)
    (case c17 => k_is)
    (case k17 => k_is)
    (case a18 => k_is)
    (case l18 => k_is)
    (case c18 => k_is)
    (case k18 => k_is)
    (case a19 => k_is)
    (case l19 => k_is)
    (case c19 => k_is)
    (case k19 => k_is)
    (case a20 => k_is)
    (case l20 => k_is)
    (case c20 => k_is)
    (case k20 => k_is)
    (case a21 => k_is)
    (case l21 => k_is)
    (case c21 => k_is)
    (case k21 => k_is)
    (case a22 => k_is)
    (case l22 => k_is)
    (case c22 => k_is)
    (case k22 => k_is)
    (case a23 => k_is)
    (case l23 => k_is)
    (case c23 => k_is)
    (case k23 => k_is)
    (case a24 => k_is)
    (case l24 => k_is)
    (case c24 => k_is)
    (case k24 => k_is)
    (case a25 => k_is)
    (case l25 => k_is)
    (case c25 => k_is)
    (case k25 => k_is)
    (case a26 => k_is)
    (case l26 => k_is)
    (case c26 => k_is)
    (case k26 => k_is)
    (case a27 => k_is)
    (case l27 => k_is)
    (case c27 => k_is)
    (case k27 => k_is)
    (case a28 => k_is)
    (case l28 => k_is)
    (case c28 => k_is)
    (case k28 => k_is)
    (case a29 => k_is)
    (case l29 => k_is)
    (case c29 => k_is)
    (case k29 => k_is)
    (case a30 => k_is)
    (case l30 => k_is)
    (case c30 => k_is)
    (case k30 => k_is)
    (case a31 => k_is)
    (case l31 => k_is)
    (case c31 => k_is)
    (case k31 => k_is)
    (case a32 => k_is)
    (case l32 => k_is)
    (case c32 => k_is)
    (case k32 => k_is)
    (case a33 => k_is)
    (case l33 => k_is)
    (case c33 => k_is)
    (case k33 => k_is)
    (case a34 => k_is)
    (case l34 => k_is)
    (case c34 => k_is)
    (case k34 => k_is)
    (case a35 => k_is)
    (case l35 => k_is)
    (case c35 => k_is)
    (case k35 => k_is)
    (case a36 => k_is)
    (case l36 => k_is)
    (case c36 => k_is)
    (case k36 => k_is)
    (case a37 => k_is)
    (case l37 => k_is)
    (case c37 => k_is)
    (case k37 => k_is)
    (case a38 => k_is)
    (case l38 => k_is)
    (case c38 => k_is)
    (case k38 => k_is)
    (case a39 => k_is)
    (case l39 => k_is)
    (case c39 => k_is)
    (case k39 => k_is)
    (case a40 => k_is)
    (case l40 => k_is)
    (case c40 => k_is)
    (case k40 => k_is)
    (case a41 => k_is)
    (case l41 => k_is)
    (case c41 => k_is)
    (case k41 => k_is)
    (case a42 => k_is)
    (case l42 => k_is)
    (case c42 => k_is)
    (case k42 => k_is)
    (case a43 => k_is)
    (case i43 => k_is)
    (case l43 => k_is)
    (case c43 => k_is)
    (case k43 => k_is)
    (case a44 => k_is)
    (case l44 => k_is)
    (case c44 => k_is)
    (case k44 => k_is)
    (case a45 => k_is)
    (case l45 => k_is)
    (case c45 => k_is)
    (case k45 => k_is)
    (case a46 => k_is)
    (case l46 => k_is)
    (case c46 => k_is)
    (case k46 => k_is)
    (case a47 => k_is)
    (case l47 => k_is)
    (case c47 => k_is)
    (case k47 => k_is)
    (case a48 => k_is)
    (case l48 => k_is)
    (case c48 => k_is)
    (case k48 => k_is)
    (case a49 => k_is)
    (case l49 => k_is)
    (case c49 => k_is)
    (case k49 => k_is)
    (case a50 => k_is)
    (case l50 => k_is)
    (case c50 => k_is)
    (case k50 => k_is)
    (case a51 => k_is)
    (case l51 => k_is)
    (case c51 => k_is)
    (case k51 => k_is)
    (case a52 => k_is)
    (case l52 => k_is)
    (case c52 => k_is)
    (case k52 => k_is)
    (case b_len => k_is)
    (case b_int => k_is)
    (case b_sum => k_is)
    (case b_abs => k_is)
    (case b_range => k_is)
    (case b_list => k_is)
    (case b_sorted => k_is)
    (case b_isinstance => k_is)
    (case b_bool => k_is)
    (case b_tuple => k_is)
    (case b_min => k_is)
    (case g_NUMBERS => k_is)
    (case g_AMOUNTS => k_is)
    (case g_BOOKS => k_is)
    (case g_MOMENTS => k_is)
    (case g_LINES => k_is)
    (case g_DOORS => k_is)
    (case g_LOOKS => k_is)
end
