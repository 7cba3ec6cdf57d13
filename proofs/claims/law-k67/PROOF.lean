import PyProof.Rows.All
import Wide.All
import OpenK.AllK
import Wide.FinOn
import KE.KStateDown
import KE.KExcInit
import PySem.Challenge.RW_heightsums_k67_whole_histories_of_walker
import HandS.ForMost
import HandS.Exc
import HandS.ExcOwn
import HandS.WordsExc
import HandS.Defaults
import HandS.Head0
import HandS.Head1
import HandS.Head2
import HandS.HeadEnd
import HandS.HeadHook1
import HandS.HeadHook2
import PyProof.ReprRoads
import HandS.MakeKwOnly
import HandS.IsInst
import HandS.Flow
import KE.KTryMore
import HandS.TryMany
import HandS.ExcInit
import HandS.Strs
import PyProof.StrOps2
import HandS.Wide
import HandS.Iter
import HandS.Comp
import HandS.Codes
import KE.KAssignIn
import PyProof.ReprBulk
import PyProof.Rows.RegStrFacts
import PyProof.Seq
/-! HsMath1 -/
section
set_option linter.all false
namespace Hs
/-- Python's min, max of two ints as the built-ins answer -/
def imin (a b : Int) : Int := if b < a then b else a
def imax (a b : Int) : Int := if b > a then b else a
def iabs (a : Int) : Int := if a < 0 then -a else a
theorem imin_le_l (a b : Int) : imin a b ≤ a := by unfold imin; split <;> omega
theorem imin_le_r (a b : Int) : imin a b ≤ b := by unfold imin; split <;> omega
theorem imin_or (a b : Int) : imin a b = a ∨ imin a b = b := by unfold imin; split <;> simp
theorem imin_def (a b : Int) : imin a b = if a ≤ b then a else b := by unfold imin; split <;> split <;> omega
theorem imax_def (a b : Int) : imax a b = if a ≤ b then b else a := by unfold imax; split <;> split <;> omega
theorem le_imin {a b c : Int} (h1 : c ≤ a) (h2 : c ≤ b) : c ≤ imin a b := by unfold imin; split <;> omega
theorem le_imax_r (a b : Int) : b ≤ imax a b := by unfold imax; split <;> omega
theorem le_iabs (a : Int) : a ≤ iabs a ∧ 0 ≤ iabs a := by unfold iabs; split <;> omega
/-- capped -/
def cap (n : Int) : Option Int → Int
  | none => n
  | some l => imin n l
theorem cap_le (n : Int) (l : Option Int) : cap n l ≤ n := by
  cases l with
  | none => exact Int.le_refl _
  | some l => exact imin_le_l _ _
theorem cap_mono {a b : Int} (h : a ≤ b) (l : Option Int) : cap a l ≤ cap b l := by
  cases l with
  | none => exact h
  | some l => simp only [cap, imin_def]; split <;> split <;> omega
theorem cap_step (a : Int) (l : Option Int) : cap (a + 1) l ≤ cap a l + 1 := by
  cases l with
  | none => exact Int.le_refl _
  | some l => simp only [cap, imin_def]; split <;> split <;> omega
theorem cap_nn {a : Int} {l : Option Int} (h : 0 ≤ a) (hl : ∀ k, l = some k → 0 ≤ k) : 0 ≤ cap a l := by
  cases l with
  | none => exact h
  | some k => have := hl k rfl; simp only [cap, imin_def]; split <;> omega

/-- what Extents keeps -/
structure Ext where
  width : Int
  climb : Int
  depth : Option Int
  base : Int
  limit : Option Int
namespace Ext
def extent (e : Ext) (j v : Int) : Int := e.width * cap (e.base + v) e.limit + (j - v) * cap (e.climb + v) e.depth
def first (e : Ext) (j : Int) : Int := match e.limit with
  | none => j
  | some k => imin j (k - e.base)
def second (e : Ext) (j : Int) : Int := match e.depth with
  | none => j
  | some n => imin j (n - e.climb)
def lowPeak (e : Ext) (j : Int) : Int := imin (imax ((e.width + j - e.climb) / 2) 0) (e.first j)
def highPeak (e : Ext) (j : Int) : Int := imin (imax ((j - e.climb) / 2) (e.first j)) (e.second j)
def best (e : Ext) (j : Int) : Int := if e.extent j (e.lowPeak j) ≥ e.extent j (e.highPeak j) then e.lowPeak j else e.highPeak j
def greatest (e : Ext) (j : Int) : Int := e.extent j (e.best j)
/-- what a well made Extents keeps: the room behind the start height is not less than what is used of it -/
structure Ok (e : Ext) : Prop where
  w0 : 0 ≤ e.width
  c0 : 0 ≤ e.climb
  b0 : 0 ≤ e.base
  bl : ∀ k, e.limit = some k → e.base ≤ k
  cd : ∀ n, e.depth = some n → e.climb ≤ n
  /-- the first range ends no later than the second -/
  ld : ∀ n, e.depth = some n → ∃ k, e.limit = some k ∧ k - e.base ≤ n - e.climb
end Ext
open Ext
variable {e : Ext}
theorem first_le_second (o : e.Ok) (j : Int) : e.first j ≤ e.second j := by
  unfold Ext.first Ext.second
  cases hd : e.depth with
  | none => cases hl : e.limit with
    | none => exact Int.le_refl _
    | some k => exact imin_le_l _ _
  | some n =>
    obtain ⟨k, hk, h⟩ := o.ld n hd
    rw [hk]
    simp only [imin_def]; split <;> split <;> omega
theorem first_le (e : Ext) (j : Int) : e.first j ≤ j := by
  unfold Ext.first; split
  · exact Int.le_refl _
  · exact imin_le_l _ _
theorem second_le (e : Ext) (j : Int) : e.second j ≤ j := by
  unfold Ext.second; split
  · exact Int.le_refl _
  · exact imin_le_l _ _
theorem first_nn (o : e.Ok) {j : Int} (h : 0 ≤ j) : 0 ≤ e.first j := by
  unfold Ext.first; split
  · exact h
  · rename_i k hk; have := o.bl k hk; simp only [imin_def]; split <;> omega
/-- in the first range -/
theorem ext_low (o : e.Ok) {j v : Int} (h : v ≤ e.first j) : e.extent j v = e.width * (e.base + v) + (j - v) * (e.climb + v) := by
  have h2 := Int.le_trans h (first_le_second o j)
  unfold Ext.extent
  have a : cap (e.base + v) e.limit = e.base + v := by
    unfold Ext.first at h
    cases hl : e.limit with
    | none => rfl
    | some k => rw [hl] at h; have h' : v ≤ k - e.base := Int.le_trans h (imin_le_r _ _); simp only [cap, imin_def]; split <;> omega
  have b : cap (e.climb + v) e.depth = e.climb + v := by
    unfold Ext.second at h2
    cases hl : e.depth with
    | none => rfl
    | some k => rw [hl] at h2; have h' : v ≤ k - e.climb := Int.le_trans h2 (imin_le_r _ _); simp only [cap, imin_def]; split <;> omega
  rw [a, b]
/-- beyond the first breakpoint the base is at its limit -/
theorem ext_mid (o : e.Ok) {j v : Int} (h1 : e.first j ≤ v) (h : v ≤ e.second j) (hj : e.first j < j) : ∃ k, e.limit = some k ∧ e.extent j v = e.width * k + (j - v) * (e.climb + v) := by
  unfold Ext.extent
  have b : cap (e.climb + v) e.depth = e.climb + v := by
    unfold Ext.second at h
    cases hl : e.depth with
    | none => rfl
    | some k => rw [hl] at h; have h' : v ≤ k - e.climb := Int.le_trans h (imin_le_r _ _); simp only [cap, imin_def]; split <;> omega
  unfold Ext.first at h1 hj
  cases hl : e.limit with
  | none => rw [hl] at hj; exact absurd hj (Int.lt_irrefl _)
  | some k =>
    rw [hl] at h1 hj
    refine ⟨k, rfl, ?_⟩
    rw [b]
    have h' : k ≤ e.base + v := by
      have h1' : imin j (k - e.base) ≤ v := h1
      have hj' : imin j (k - e.base) < j := hj
      rcases imin_or j (k - e.base) with q | q
      · omega
      · omega
    have a : cap (e.base + v) (some k) = k := by simp only [cap, imin_def]; split <;> omega
    rw [a]
theorem sq_step (a b v : Int) : (a - (v + 1)) * (b + (v + 1)) = (a - v) * (b + v) + (a - b - 2 * v - 1) := by
  have e1 : (a - (v + 1)) * (b + (v + 1)) = (a - v) * (b + v) + (a - v) - (b + v) - 1 := by
    have : a - (v + 1) = (a - v) - 1 := by omega
    rw [this]
    have : b + (v + 1) = (b + v) + 1 := by omega
    rw [this, Int.sub_mul, Int.mul_add, Int.mul_one, Int.one_mul]; omega
  rw [e1]; omega
theorem low_step (w b c j v : Int) : w * (b + (v + 1)) + (j - (v + 1)) * (c + (v + 1)) = w * (b + v) + (j - v) * (c + v) + (w + j - c - 2 * v - 1) := by
  rw [sq_step]
  have : b + (v + 1) = (b + v) + 1 := by omega
  rw [this, Int.mul_add, Int.mul_one]; omega
/-- rising up to p, falling from p: the greatest is at p -/
theorem climb_up {f : Int → Int} {lo p : Int} (h : ∀ v, lo ≤ v → v < p → f v ≤ f (v + 1)) : ∀ v, lo ≤ v → v ≤ p → f v ≤ f p := by
  intro v h1 h2
  obtain ⟨n, hn⟩ : ∃ n : Nat, p = v + n := ⟨(p - v).toNat, by omega⟩
  subst hn
  induction n with
  | zero => simp
  | succ n ih =>
    have a := ih (fun u hu hv => h u hu (by omega)) (by omega)
    have b := h (v + n) (by omega) (by omega)
    have : v + ((n + 1 : Nat) : Int) = v + n + 1 := by omega
    rw [this]; omega
theorem climb_down {f : Int → Int} {p hi : Int} (h : ∀ v, p ≤ v → v < hi → f (v + 1) ≤ f v) : ∀ v, p ≤ v → v ≤ hi → f v ≤ f p := by
  intro v h1 h2
  obtain ⟨n, hn⟩ : ∃ n : Nat, v = p + n := ⟨(v - p).toNat, by omega⟩
  subst hn
  induction n with
  | zero => simp
  | succ n ih =>
    have a := ih (by omega) (by omega)
    have b := h (p + n) (by omega) (by omega)
    have : p + ((n + 1 : Nat) : Int) = p + n + 1 := by omega
    rw [this]; omega
/-- low range: the low peak is the greatest -/
theorem low_peak_best (o : e.Ok) {j : Int} (hj : 0 ≤ j) {v : Int} (h0 : 0 ≤ v) (h1 : v ≤ e.first j) : e.extent j v ≤ e.extent j (e.lowPeak j) := by
  have hf := first_nn o hj
  let f : Int → Int := fun v => e.width * (e.base + v) + (j - v) * (e.climb + v)
  have hfe : ∀ u, u ≤ e.first j → e.extent j u = f u := fun u hu => ext_low o hu
  have hp1 : 0 ≤ e.lowPeak j := le_imin (le_imax_r _ _) hf
  have hp2 : e.lowPeak j ≤ e.first j := imin_le_r _ _
  rw [hfe v h1, hfe _ hp2]
  have st : ∀ u, f (u + 1) = f u + (e.width + j - e.climb - 2 * u - 1) := fun u => low_step _ _ _ _ _
  by_cases c : v ≤ e.lowPeak j
  · refine climb_up (f := f) (lo := 0) (fun u _ hu => ?_) v h0 c
    rw [st]
    have : e.lowPeak j ≤ imax ((e.width + j - e.climb) / 2) 0 := imin_le_l _ _
    rw [imax_def] at this
    split at this <;> omega
  · refine climb_down (f := f) (hi := e.first j) (fun u hu hu2 => ?_) v (by omega) h1
    rw [st]
    have : e.lowPeak j = imax ((e.width + j - e.climb) / 2) 0 := by
      rcases imin_or (imax ((e.width + j - e.climb) / 2) 0) (e.first j) with q | q
      · exact q
      · have q' : e.lowPeak j = e.first j := q
        omega
    rw [imax_def] at this
    split at this <;> omega
theorem high_peak_mid (o : e.Ok) {j : Int} (hj : 0 ≤ j) {v : Int} (h0 : e.first j ≤ v) (h1 : v ≤ e.second j) : e.extent j v ≤ e.extent j (e.highPeak j) := by
  have hfs := first_le_second o j
  have hp1 : e.first j ≤ e.highPeak j := le_imin (le_imax_r _ _) hfs
  have hp2 : e.highPeak j ≤ e.second j := imin_le_r _ _
  have hs := second_le e j
  by_cases hlt : e.first j < j
  · obtain ⟨k, hk, e1⟩ := ext_mid o h0 h1 hlt
    obtain ⟨k', hk', e2⟩ := ext_mid o hp1 hp2 hlt
    rw [hk] at hk'; cases hk'
    rw [e1, e2]
    let f : Int → Int := fun v => e.width * k + (j - v) * (e.climb + v)
    have st : ∀ u, f (u + 1) = f u + (j - e.climb - 2 * u - 1) := fun u => by show e.width * k + (j - (u + 1)) * (e.climb + (u + 1)) = e.width * k + (j - u) * (e.climb + u) + _; rw [sq_step]; omega
    show f v ≤ f (e.highPeak j)
    by_cases c : v ≤ e.highPeak j
    · refine climb_up (f := f) (lo := e.first j) (fun u hu0 hu => ?_) v h0 c
      rw [st]
      have : e.highPeak j ≤ imax ((j - e.climb) / 2) (e.first j) := imin_le_l _ _
      rw [imax_def] at this
      split at this <;> omega
    · refine climb_down (f := f) (hi := e.second j) (fun u hu hu2 => ?_) v (by omega) h1
      rw [st]
      have : e.highPeak j = imax ((j - e.climb) / 2) (e.first j) := by
        rcases imin_or (imax ((j - e.climb) / 2) (e.first j)) (e.second j) with q | q
        · exact q
        · have q' : e.highPeak j = e.second j := q
          omega
      rw [imax_def] at this
      split at this <;> omega
  · have : e.first j ≤ j := first_le e j
    have a : v = e.highPeak j := by omega
    rw [a]; exact Int.le_refl _
/-- beyond the second breakpoint the extents fall -/
theorem high_range (o : e.Ok) {j : Int} (hj : 0 ≤ j) {v : Int} (h0 : e.second j ≤ v) (h1 : v ≤ j) : e.extent j v ≤ e.extent j (e.second j) := by
  by_cases c : e.second j = j
  · have : v = e.second j := by omega
    rw [this]; exact Int.le_refl _
  · cases hd : e.depth with
    | none => exact absurd (by unfold Ext.second; rw [hd]) c
    | some n =>
      obtain ⟨k, hk, hkn⟩ := o.ld n hd
      have hsec : e.second j = n - e.climb := by
        unfold Ext.second at c ⊢; rw [hd] at c ⊢
        rcases imin_or j (n - e.climb) with q | q
        · exact absurd q c
        · exact q
      have hc := o.cd n hd
      have val : ∀ u, e.second j ≤ u → e.extent j u = e.width * k + (j - u) * n := fun u hu => by
        have h1 : e.limit = some k := hk
        unfold Ext.extent
        rw [hk, hd]
        have a : cap (e.base + u) (some k) = k := by simp only [cap, imin_def]; split <;> omega
        have b : cap (e.climb + u) (some n) = n := by simp only [cap, imin_def]; split <;> omega
        rw [a, b]
      rw [val v h0, val _ (Int.le_refl _)]
      have : (j - v) * n ≤ (j - e.second j) * n := Int.mul_le_mul_of_nonneg_right (by omega) (by have := o.c0; omega)
      omega
theorem peaks_range (o : e.Ok) {j : Int} (hj : 0 ≤ j) : 0 ≤ e.lowPeak j ∧ e.lowPeak j ≤ j ∧ 0 ≤ e.highPeak j ∧ e.highPeak j ≤ j := by
  have hf := first_nn o hj
  have hfs := first_le_second o j
  have h1 := first_le e j
  have h2 := second_le e j
  have a : 0 ≤ e.lowPeak j := le_imin (le_imax_r _ _) hf
  have b : e.lowPeak j ≤ e.first j := imin_le_r _ _
  have c : e.first j ≤ e.highPeak j := le_imin (le_imax_r _ _) hfs
  have d : e.highPeak j ≤ e.second j := imin_le_r _ _
  exact ⟨a, by omega, by omega, by omega⟩
theorem best_range (o : e.Ok) {j : Int} (hj : 0 ≤ j) : 0 ≤ e.best j ∧ e.best j ≤ j := by
  obtain ⟨a, b, c, d⟩ := peaks_range o hj
  unfold Ext.best; split <;> constructor <;> assumption
/-- THE PEAKS: no split has a greater extent than best's -/
theorem greatest_ge (o : e.Ok) {j : Int} (hj : 0 ≤ j) {v : Int} (h0 : 0 ≤ v) (h1 : v ≤ j) : e.extent j v ≤ e.greatest j := by
  have key : e.extent j v ≤ e.extent j (e.lowPeak j) ∨ e.extent j v ≤ e.extent j (e.highPeak j) := by
    by_cases c : v ≤ e.first j
    · exact .inl (low_peak_best o hj h0 c)
    · by_cases c2 : v ≤ e.second j
      · exact .inr (high_peak_mid o hj (by omega) c2)
      · exact .inr (Int.le_trans (high_range o hj (by omega) h1) (high_peak_mid o hj (first_le_second o j) (Int.le_refl _)))
  unfold Ext.greatest Ext.best
  split
  · rcases key with k | k <;> omega
  · rcases key with k | k <;> omega
theorem span_nn (o : e.Ok) {v : Int} (h : 0 ≤ v) : 0 ≤ cap (e.climb + v) e.depth :=
  cap_nn (by have := o.c0; omega) fun k hk => Int.le_trans o.c0 (o.cd k hk)
theorem greatest_mono1 (o : e.Ok) {j : Int} (hj : 0 ≤ j) : e.greatest j ≤ e.greatest (j + 1) := by
  obtain ⟨a, b⟩ := best_range o hj
  refine Int.le_trans ?_ (greatest_ge o (j := j + 1) (by omega) a (by omega))
  unfold Ext.greatest Ext.extent
  have : (j - e.best j) * cap (e.climb + e.best j) e.depth ≤ (j + 1 - e.best j) * cap (e.climb + e.best j) e.depth := Int.mul_le_mul_of_nonneg_right (by omega) (span_nn o a)
  omega
theorem greatest_mono (o : e.Ok) {i j : Int} (hi : 0 ≤ i) (h : i ≤ j) : e.greatest i ≤ e.greatest j := by
  obtain ⟨n, hn⟩ : ∃ n : Nat, j = i + n := ⟨(j - i).toNat, by omega⟩
  subst hn
  clear h
  induction n with
  | zero => simp
  | succ n ih =>
    have := greatest_mono1 o (j := i + n) (by omega)
    have e1 : i + ((n + 1 : Nat) : Int) = i + n + 1 := by omega
    rw [e1]; omega
/-- it grows without end where the band has more than one height -/
theorem greatest_big (o : e.Ok) (hd : e.depth ≠ some 0) {j : Int} (hj : 1 ≤ j) : j - 1 ≤ e.greatest j := by
  refine Int.le_trans ?_ (greatest_ge o (j := j) (by omega) (v := 1) (by omega) hj)
  unfold Ext.extent
  have a : 0 ≤ e.width * cap (e.base + 1) e.limit := Int.mul_nonneg o.w0 (cap_nn (by have := o.b0; omega) fun k hk => by have := o.b0; have := o.bl k hk; omega)
  have b : 1 ≤ cap (e.climb + 1) e.depth := by
    have := o.c0
    cases q : e.depth with
    | none => show 1 ≤ e.climb + 1; omega
    | some n =>
      have h1 := o.cd n q
      have : n ≠ 0 := fun z => hd (by rw [q, z])
      simp only [cap, imin_def]; split <;> omega
  have : (j - 1) * 1 ≤ (j - 1) * cap (e.climb + 1) e.depth := Int.mul_le_mul_of_nonneg_left b (by omega)
  omega
/-- what fewest_pairs answers -/
def IsFewest (e : Ext) (t j : Int) : Prop := 0 ≤ j ∧ t ≤ e.greatest j ∧ (0 < j → e.greatest (j - 1) < t)
theorem IsFewest.le (o : e.Ok) {t j i : Int} (h : IsFewest e t j) (hi : 0 ≤ i) (ht : t ≤ e.greatest i) : j ≤ i := by
  obtain ⟨h0, _, h2⟩ := h
  rcases Int.lt_or_le i j with c | c
  · have a := h2 (by omega)
    have b := greatest_mono o hi (j := j - 1) (by omega)
    omega
  · exact c
theorem IsFewest.uniq (o : e.Ok) {t i j : Int} (h : IsFewest e t i) (h' : IsFewest e t j) : i = j := by
  have a := h.le o h'.1 h'.2.1
  have b := h'.le o h.1 h.2.1
  omega
theorem IsFewest.of_split (o : e.Ok) {t j i v : Int} (h : IsFewest e t j) (h0 : 0 ≤ v) (h1 : v ≤ i) (ht : t ≤ e.extent i v) : j ≤ i :=
  h.le o (by omega) (Int.le_trans ht (greatest_ge o (by omega) h0 h1))
theorem IsFewest.split (o : e.Ok) {t j : Int} (h : IsFewest e t j) : ∃ v, 0 ≤ v ∧ v ≤ j ∧ t ≤ e.extent j v :=
  let ⟨a, b⟩ := best_range o h.1
  ⟨e.best j, a, b, h.2.1⟩
theorem IsFewest.bound (o : e.Ok) (hd : e.depth ≠ some 0) {t j : Int} (h : IsFewest e t j) : j ≤ iabs t + 1 := by
  have a := le_iabs t
  have b := greatest_big o hd (j := iabs t + 1) (by omega)
  exact h.le o (by omega) (by omega)
end Hs
end

/-! HsText -/
section
set_option Elab.async false
set_option linter.all false
set_option maxRecDepth 100000
set_option maxHeartbeats 4000000
namespace Hs
open PySem PySem.Spec PyProof.Rows L2
/-! ### the text: where each def stands in the row's top -/
def top (i : Nat) : Stmt := PySem.Challenge.pw_heightsums_k67_whole_histories_of_walker.main.body.getD i (.Pass ⟨0, 0, 0, 0⟩)
abbrev sUnknownNameInit : Stmt := inClass (top 8) 0
abbrev sOutsideBandInit : Stmt := inClass (top 9) 0
abbrev sBudgetExceededInit : Stmt := inClass (top 12) 0
abbrev sIsInteger : Stmt := top 16
abbrev sIsCount : Stmt := top 17
abbrev sIsStep : Stmt := top 18
abbrev sCheckInteger : Stmt := top 19
abbrev sIsState : Stmt := top 21
abbrev sCheckState : Stmt := top 22
abbrev sApplyTo : Stmt := top 24
abbrev sDifference : Stmt := top 25
abbrev sIsRun : Stmt := top 27
abbrev sCheckRuns : Stmt := top 28
abbrev sAppendRun : Stmt := top 29
abbrev sMergeRuns : Stmt := top 30
abbrev sTotalSteps : Stmt := top 31
abbrev sRunDisplacement : Stmt := top 32
abbrev sAfterRuns : Stmt := top 33
abbrev sFirstSteps : Stmt := top 34
abbrev sStateAfter : Stmt := top 35
abbrev sBandInit : Stmt := inClass (top 37) 0
abbrev sBandLow : Stmt := inClass (top 37) 3
abbrev sBandHigh : Stmt := inClass (top 37) 4
abbrev sBandIncludes : Stmt := inClass (top 37) 5
abbrev sBandRoom : Stmt := inClass (top 37) 8
abbrev sToBand : Stmt := top 38
abbrev sCheckHeight : Stmt := top 39
abbrev sCapped : Stmt := top 41
abbrev sDepthOf : Stmt := top 42
abbrev sExtentsInit : Stmt := inClass (top 44) 0
abbrev sExtentsExtent : Stmt := inClass (top 44) 1
abbrev sExtentsBreakpoints : Stmt := inClass (top 44) 2
abbrev sExtentsPeaks : Stmt := inClass (top 44) 3
abbrev sExtentsBestSplit : Stmt := inClass (top 44) 4
abbrev sExtentsGreatest : Stmt := inClass (top 44) 5
abbrev sExtentsFewestPairs : Stmt := inClass (top 44) 6
abbrev sExtentsFor : Stmt := top 45
abbrev sFewestPairs : Stmt := top 47
abbrev sFewestSteps : Stmt := top 48
abbrev sDisplacementAndRoom : Stmt := top 49
abbrev sDistanceOrNone : Stmt := top 50
abbrev sDistance : Stmt := top 51
abbrev sHeightOutside : Stmt := top 53
abbrev sIsName : Stmt := top 58
abbrev sArePlayers : Stmt := top 59
abbrev sWalkerInit : Stmt := inClass (top 61) 0
abbrev sWalkerCheckFree : Stmt := inClass (top 61) 1
abbrev sWalkerNotify : Stmt := inClass (top 61) 2
abbrev sWalkerRecord : Stmt := inClass (top 61) 3
abbrev sWalkerAdvance : Stmt := inClass (top 61) 4
abbrev sWalkerChangeGoal : Stmt := inClass (top 61) 5
abbrev sWalkerUndo : Stmt := inClass (top 61) 6
abbrev sWalkerCurrentState : Stmt := inClass (top 61) 7
abbrev sWalkerCurrentGoal : Stmt := inClass (top 61) 8
abbrev sWalkerBudget : Stmt := inClass (top 61) 9
abbrev sWalkerPlayer : Stmt := inClass (top 61) 10
abbrev sWalkerActions : Stmt := inClass (top 61) 11
abbrev sWalkerWalked : Stmt := inClass (top 61) 12
abbrev sWalkerIsTooFar : Stmt := inClass (top 61) 13
abbrev sWalkerStatus : Stmt := inClass (top 61) 14
abbrev sWalkerLostAt : Stmt := inClass (top 61) 16
abbrev sWalkerClone : Stmt := inClass (top 61) 18
abbrev sWalkerLen : Stmt := inClass (top 61) 19
abbrev sLawPool : Stmt := top 63
abbrev sLawTake : Stmt := top 64
abbrev sLawInteger : Stmt := top 65
abbrev sLawEnds : Stmt := top 66
abbrev sLawInside : Stmt := top 67
abbrev sLawWorld : Stmt := top 68
abbrev sLawNames : Stmt := top 69
abbrev sLawDone : Stmt := top 70
abbrev sLawAct : Stmt := top 71
abbrev sLawNext : Stmt := top 72
abbrev sLawLost : Stmt := top 73
abbrev sLawSame : Stmt := top 74
abbrev sLaw : Stmt := top 75
/-! ### the data of the defs, for the head -/
def dUnknownNameInit : He.DefD := ⟨("UnknownName", some "__init__"), "__init__", "UnknownName.__init__", defArgs sUnknownNameInit, defBody sUnknownNameInit, defScope sUnknownNameInit, [], []⟩
def dOutsideBandInit : He.DefD := ⟨("OutsideBand", some "__init__"), "__init__", "OutsideBand.__init__", defArgs sOutsideBandInit, defBody sOutsideBandInit, defScope sOutsideBandInit, [], []⟩
def dBudgetExceededInit : He.DefD := ⟨("BudgetExceeded", some "__init__"), "__init__", "BudgetExceeded.__init__", defArgs sBudgetExceededInit, defBody sBudgetExceededInit, defScope sBudgetExceededInit, [], []⟩
def dIsInteger : He.DefD := ⟨("is_integer", none), "is_integer", "is_integer", defArgs sIsInteger, defBody sIsInteger, defScope sIsInteger, [], []⟩
def dIsCount : He.DefD := ⟨("is_count", none), "is_count", "is_count", defArgs sIsCount, defBody sIsCount, defScope sIsCount, [], []⟩
def dIsStep : He.DefD := ⟨("is_step", none), "is_step", "is_step", defArgs sIsStep, defBody sIsStep, defScope sIsStep, [], []⟩
def dCheckInteger : He.DefD := ⟨("check_integer", none), "check_integer", "check_integer", defArgs sCheckInteger, defBody sCheckInteger, defScope sCheckInteger, [.non], []⟩
def dIsState : He.DefD := ⟨("is_state", none), "is_state", "is_state", defArgs sIsState, defBody sIsState, defScope sIsState, [], []⟩
def dCheckState : He.DefD := ⟨("check_state", none), "check_state", "check_state", defArgs sCheckState, defBody sCheckState, defScope sCheckState, [], []⟩
def dApplyTo : He.DefD := ⟨("apply_to", none), "apply_to", "apply_to", defArgs sApplyTo, defBody sApplyTo, defScope sApplyTo, [], []⟩
def dDifference : He.DefD := ⟨("difference", none), "difference", "difference", defArgs sDifference, defBody sDifference, defScope sDifference, [], []⟩
def dIsRun : He.DefD := ⟨("is_run", none), "is_run", "is_run", defArgs sIsRun, defBody sIsRun, defScope sIsRun, [], []⟩
def dCheckRuns : He.DefD := ⟨("check_runs", none), "check_runs", "check_runs", defArgs sCheckRuns, defBody sCheckRuns, defScope sCheckRuns, [], []⟩
def dAppendRun : He.DefD := ⟨("append_run", none), "append_run", "append_run", defArgs sAppendRun, defBody sAppendRun, defScope sAppendRun, [], []⟩
def dMergeRuns : He.DefD := ⟨("merge_runs", none), "merge_runs", "merge_runs", defArgs sMergeRuns, defBody sMergeRuns, defScope sMergeRuns, [], []⟩
def dTotalSteps : He.DefD := ⟨("total_steps", none), "total_steps", "total_steps", defArgs sTotalSteps, defBody sTotalSteps, defScope sTotalSteps, [], []⟩
def dRunDisplacement : He.DefD := ⟨("run_displacement", none), "run_displacement", "run_displacement", defArgs sRunDisplacement, defBody sRunDisplacement, defScope sRunDisplacement, [], []⟩
def dAfterRuns : He.DefD := ⟨("after_runs", none), "after_runs", "after_runs", defArgs sAfterRuns, defBody sAfterRuns, defScope sAfterRuns, [], []⟩
def dFirstSteps : He.DefD := ⟨("first_steps", none), "first_steps", "first_steps", defArgs sFirstSteps, defBody sFirstSteps, defScope sFirstSteps, [], []⟩
def dStateAfter : He.DefD := ⟨("state_after", none), "state_after", "state_after", defArgs sStateAfter, defBody sStateAfter, defScope sStateAfter, [], []⟩
def dBandInit : He.DefD := ⟨("Band", some "__init__"), "__init__", "Band.__init__", defArgs sBandInit, defBody sBandInit, defScope sBandInit, [.non, .non], []⟩
def dBandLow : He.DefD := ⟨("Band", some "low"), "low", "Band.low", defArgs sBandLow, defBody sBandLow, defScope sBandLow, [], []⟩
def dBandHigh : He.DefD := ⟨("Band", some "high"), "high", "Band.high", defArgs sBandHigh, defBody sBandHigh, defScope sBandHigh, [], []⟩
def dBandIncludes : He.DefD := ⟨("Band", some "includes"), "includes", "Band.includes", defArgs sBandIncludes, defBody sBandIncludes, defScope sBandIncludes, [], []⟩
def dBandRoom : He.DefD := ⟨("Band", some "room"), "room", "Band.room", defArgs sBandRoom, defBody sBandRoom, defScope sBandRoom, [], []⟩
def dToBand : He.DefD := ⟨("to_band", none), "to_band", "to_band", defArgs sToBand, defBody sToBand, defScope sToBand, [], []⟩
def dCheckHeight : He.DefD := ⟨("check_height", none), "check_height", "check_height", defArgs sCheckHeight, defBody sCheckHeight, defScope sCheckHeight, [], []⟩
def dCapped : He.DefD := ⟨("capped", none), "capped", "capped", defArgs sCapped, defBody sCapped, defScope sCapped, [], []⟩
def dDepthOf : He.DefD := ⟨("depth_of", none), "depth_of", "depth_of", defArgs sDepthOf, defBody sDepthOf, defScope sDepthOf, [], []⟩
def dExtentsInit : He.DefD := ⟨("Extents", some "__init__"), "__init__", "Extents.__init__", defArgs sExtentsInit, defBody sExtentsInit, defScope sExtentsInit, [], []⟩
def dExtentsExtent : He.DefD := ⟨("Extents", some "extent"), "extent", "Extents.extent", defArgs sExtentsExtent, defBody sExtentsExtent, defScope sExtentsExtent, [], []⟩
def dExtentsBreakpoints : He.DefD := ⟨("Extents", some "breakpoints"), "breakpoints", "Extents.breakpoints", defArgs sExtentsBreakpoints, defBody sExtentsBreakpoints, defScope sExtentsBreakpoints, [], []⟩
def dExtentsPeaks : He.DefD := ⟨("Extents", some "peaks"), "peaks", "Extents.peaks", defArgs sExtentsPeaks, defBody sExtentsPeaks, defScope sExtentsPeaks, [], []⟩
def dExtentsBestSplit : He.DefD := ⟨("Extents", some "best_split"), "best_split", "Extents.best_split", defArgs sExtentsBestSplit, defBody sExtentsBestSplit, defScope sExtentsBestSplit, [], []⟩
def dExtentsGreatest : He.DefD := ⟨("Extents", some "greatest"), "greatest", "Extents.greatest", defArgs sExtentsGreatest, defBody sExtentsGreatest, defScope sExtentsGreatest, [], []⟩
def dExtentsFewestPairs : He.DefD := ⟨("Extents", some "fewest_pairs"), "fewest_pairs", "Extents.fewest_pairs", defArgs sExtentsFewestPairs, defBody sExtentsFewestPairs, defScope sExtentsFewestPairs, [], []⟩
def dExtentsFor : He.DefD := ⟨("extents_for", none), "extents_for", "extents_for", defArgs sExtentsFor, defBody sExtentsFor, defScope sExtentsFor, [], []⟩
def dFewestPairs : He.DefD := ⟨("fewest_pairs", none), "fewest_pairs", "fewest_pairs", defArgs sFewestPairs, defBody sFewestPairs, defScope sFewestPairs, [], []⟩
def dFewestSteps : He.DefD := ⟨("fewest_steps", none), "fewest_steps", "fewest_steps", defArgs sFewestSteps, defBody sFewestSteps, defScope sFewestSteps, [], []⟩
def dDisplacementAndRoom : He.DefD := ⟨("displacement_and_room", none), "displacement_and_room", "displacement_and_room", defArgs sDisplacementAndRoom, defBody sDisplacementAndRoom, defScope sDisplacementAndRoom, [], []⟩
def dDistanceOrNone : He.DefD := ⟨("distance_or_none", none), "distance_or_none", "distance_or_none", defArgs sDistanceOrNone, defBody sDistanceOrNone, defScope sDistanceOrNone, [], []⟩
def dDistance : He.DefD := ⟨("distance", none), "distance", "distance", defArgs sDistance, defBody sDistance, defScope sDistance, [], []⟩
def dHeightOutside : He.DefD := ⟨("height_outside", none), "height_outside", "height_outside", defArgs sHeightOutside, defBody sHeightOutside, defScope sHeightOutside, [], []⟩
def dIsName : He.DefD := ⟨("is_name", none), "is_name", "is_name", defArgs sIsName, defBody sIsName, defScope sIsName, [], []⟩
def dArePlayers : He.DefD := ⟨("are_players", none), "are_players", "are_players", defArgs sArePlayers, defBody sArePlayers, defScope sArePlayers, [], []⟩
def dWalkerInit : He.DefD := ⟨("Walker", some "__init__"), "__init__", "Walker.__init__", defArgs sWalkerInit, defBody sWalkerInit, defScope sWalkerInit, [], [("observer", .non)]⟩
def dWalkerCheckFree : He.DefD := ⟨("Walker", some "check_free"), "check_free", "Walker.check_free", defArgs sWalkerCheckFree, defBody sWalkerCheckFree, defScope sWalkerCheckFree, [], []⟩
def dWalkerNotify : He.DefD := ⟨("Walker", some "notify"), "notify", "Walker.notify", defArgs sWalkerNotify, defBody sWalkerNotify, defScope sWalkerNotify, [], []⟩
def dWalkerRecord : He.DefD := ⟨("Walker", some "record"), "record", "Walker.record", defArgs sWalkerRecord, defBody sWalkerRecord, defScope sWalkerRecord, [], []⟩
def dWalkerAdvance : He.DefD := ⟨("Walker", some "advance"), "advance", "Walker.advance", defArgs sWalkerAdvance, defBody sWalkerAdvance, defScope sWalkerAdvance, [], []⟩
def dWalkerChangeGoal : He.DefD := ⟨("Walker", some "change_goal"), "change_goal", "Walker.change_goal", defArgs sWalkerChangeGoal, defBody sWalkerChangeGoal, defScope sWalkerChangeGoal, [], []⟩
def dWalkerUndo : He.DefD := ⟨("Walker", some "undo"), "undo", "Walker.undo", defArgs sWalkerUndo, defBody sWalkerUndo, defScope sWalkerUndo, [], []⟩
def dWalkerCurrentState : He.DefD := ⟨("Walker", some "current_state"), "current_state", "Walker.current_state", defArgs sWalkerCurrentState, defBody sWalkerCurrentState, defScope sWalkerCurrentState, [], []⟩
def dWalkerCurrentGoal : He.DefD := ⟨("Walker", some "current_goal"), "current_goal", "Walker.current_goal", defArgs sWalkerCurrentGoal, defBody sWalkerCurrentGoal, defScope sWalkerCurrentGoal, [], []⟩
def dWalkerBudget : He.DefD := ⟨("Walker", some "budget"), "budget", "Walker.budget", defArgs sWalkerBudget, defBody sWalkerBudget, defScope sWalkerBudget, [], []⟩
def dWalkerPlayer : He.DefD := ⟨("Walker", some "player"), "player", "Walker.player", defArgs sWalkerPlayer, defBody sWalkerPlayer, defScope sWalkerPlayer, [], []⟩
def dWalkerActions : He.DefD := ⟨("Walker", some "actions"), "actions", "Walker.actions", defArgs sWalkerActions, defBody sWalkerActions, defScope sWalkerActions, [], []⟩
def dWalkerWalked : He.DefD := ⟨("Walker", some "walked"), "walked", "Walker.walked", defArgs sWalkerWalked, defBody sWalkerWalked, defScope sWalkerWalked, [], []⟩
def dWalkerIsTooFar : He.DefD := ⟨("Walker", some "is_too_far"), "is_too_far", "Walker.is_too_far", defArgs sWalkerIsTooFar, defBody sWalkerIsTooFar, defScope sWalkerIsTooFar, [], []⟩
def dWalkerStatus : He.DefD := ⟨("Walker", some "status"), "status", "Walker.status", defArgs sWalkerStatus, defBody sWalkerStatus, defScope sWalkerStatus, [], []⟩
def dWalkerLostAt : He.DefD := ⟨("Walker", some "lost_at"), "lost_at", "Walker.lost_at", defArgs sWalkerLostAt, defBody sWalkerLostAt, defScope sWalkerLostAt, [], []⟩
def dWalkerClone : He.DefD := ⟨("Walker", some "clone"), "clone", "Walker.clone", defArgs sWalkerClone, defBody sWalkerClone, defScope sWalkerClone, [], []⟩
def dWalkerLen : He.DefD := ⟨("Walker", some "__len__"), "__len__", "Walker.__len__", defArgs sWalkerLen, defBody sWalkerLen, defScope sWalkerLen, [], []⟩
def dLawPool : He.DefD := ⟨("_law_pool", none), "_law_pool", "_law_pool", defArgs sLawPool, defBody sLawPool, defScope sLawPool, [], []⟩
def dLawTake : He.DefD := ⟨("_law_take", none), "_law_take", "_law_take", defArgs sLawTake, defBody sLawTake, defScope sLawTake, [], []⟩
def dLawInteger : He.DefD := ⟨("_law_integer", none), "_law_integer", "_law_integer", defArgs sLawInteger, defBody sLawInteger, defScope sLawInteger, [], []⟩
def dLawEnds : He.DefD := ⟨("_law_ends", none), "_law_ends", "_law_ends", defArgs sLawEnds, defBody sLawEnds, defScope sLawEnds, [], []⟩
def dLawInside : He.DefD := ⟨("_law_inside", none), "_law_inside", "_law_inside", defArgs sLawInside, defBody sLawInside, defScope sLawInside, [], []⟩
def dLawWorld : He.DefD := ⟨("_law_world", none), "_law_world", "_law_world", defArgs sLawWorld, defBody sLawWorld, defScope sLawWorld, [], []⟩
def dLawNames : He.DefD := ⟨("_law_names", none), "_law_names", "_law_names", defArgs sLawNames, defBody sLawNames, defScope sLawNames, [], []⟩
def dLawDone : He.DefD := ⟨("_law_done", none), "_law_done", "_law_done", defArgs sLawDone, defBody sLawDone, defScope sLawDone, [], []⟩
def dLawAct : He.DefD := ⟨("_law_act", none), "_law_act", "_law_act", defArgs sLawAct, defBody sLawAct, defScope sLawAct, [], []⟩
def dLawNext : He.DefD := ⟨("_law_next", none), "_law_next", "_law_next", defArgs sLawNext, defBody sLawNext, defScope sLawNext, [], []⟩
def dLawLost : He.DefD := ⟨("_law_lost", none), "_law_lost", "_law_lost", defArgs sLawLost, defBody sLawLost, defScope sLawLost, [], []⟩
def dLawSame : He.DefD := ⟨("_law_same", none), "_law_same", "_law_same", defArgs sLawSame, defBody sLawSame, defScope sLawSame, [], []⟩
def dLaw : He.DefD := ⟨("law", none), "law", "law", defArgs sLaw, defBody sLaw, defScope sLaw, [], []⟩
def fnAll : List He.DefD := [dUnknownNameInit, dOutsideBandInit, dBudgetExceededInit, dIsInteger, dIsCount, dIsStep, dCheckInteger, dIsState, dCheckState, dApplyTo, dDifference, dIsRun, dCheckRuns, dAppendRun, dMergeRuns, dTotalSteps, dRunDisplacement, dAfterRuns, dFirstSteps, dStateAfter, dBandInit, dBandLow, dBandHigh, dBandIncludes, dBandRoom, dToBand, dCheckHeight, dCapped, dDepthOf, dExtentsInit, dExtentsExtent, dExtentsBreakpoints, dExtentsPeaks, dExtentsBestSplit, dExtentsGreatest, dExtentsFewestPairs, dExtentsFor, dFewestPairs, dFewestSteps, dDisplacementAndRoom, dDistanceOrNone, dDistance, dHeightOutside, dIsName, dArePlayers, dWalkerInit, dWalkerCheckFree, dWalkerNotify, dWalkerRecord, dWalkerAdvance, dWalkerChangeGoal, dWalkerUndo, dWalkerCurrentState, dWalkerCurrentGoal, dWalkerBudget, dWalkerPlayer, dWalkerActions, dWalkerWalked, dWalkerIsTooFar, dWalkerStatus, dWalkerLostAt, dWalkerClone, dWalkerLen, dLawPool, dLawTake, dLawInteger, dLawEnds, dLawInside, dLawWorld, dLawNames, dLawDone, dLawAct, dLawNext, dLawLost, dLawSame, dLaw]
-- law's place: 75
-- other names bound by the top: ['Band', 'BudgetExceeded', 'Extents', 'InvalidBand', 'InvalidInteger', 'InvalidRuns', 'InvalidState', 'InvalidStep', 'LOWERCASE', 'MAX_NAME_LENGTH', 'MAX_PLAYERS', 'NothingToUndo', 'ObserverRunning', 'OutsideBand', 'STEPS', 'UnknownName', 'Unreachable', 'WalkError', 'Walker', '__name__', '_law_act', '_law_done', '_law_ends', '_law_inside', '_law_integer', '_law_lost', '_law_names', '_law_next', '_law_pool', '_law_same', '_law_take', '_law_world', '_wall', 'after_runs', 'append_run', 'apply_to', 'are_players', 'capped', 'check_height', 'check_integer', 'check_runs', 'check_state', 'depth_of', 'difference', 'displacement_and_room', 'distance', 'distance_or_none', 'extents_for', 'fewest_pairs', 'fewest_steps', 'first_steps', 'height_outside', 'is_count', 'is_integer', 'is_name', 'is_run', 'is_state', 'is_step', 'law', 'merge_runs', 'run_displacement', 'state_after', 'to_band', 'total_steps']

def faP0 : List He.Fa := [.glo "is_integer", .glo "is_count", .glo "is_step", .glo "check_integer", .glo "is_state", .glo "check_state", .glo "apply_to", .glo "difference", .glo "is_run", .glo "check_runs", .glo "append_run", .glo "merge_runs", .glo "total_steps", .glo "run_displacement", .glo "after_runs", .glo "first_steps", .glo "state_after", .glo "to_band", .glo "check_height", .glo "capped", .glo "depth_of", .glo "extents_for", .glo "fewest_pairs", .glo "fewest_steps", .glo "displacement_and_room", .glo "distance_or_none", .glo "distance", .glo "height_outside", .glo "is_name", .glo "are_players", .glo "_law_pool", .glo "_law_take", .glo "_law_integer", .glo "_law_ends", .glo "_law_inside", .glo "_law_world", .glo "_law_names", .glo "_law_done", .glo "_law_act", .glo "_law_next"]
def faP1 : List He.Fa := [.glo "_law_lost", .glo "_law_same", .glo "law", .glo "Extents", .cls "Extents", .mkr "Extents", .glo "Band", .cls "Band", .mkr "Band", .glo "Walker", .cls "Walker", .mkr "Walker", .meth "Band" "low", .meth "Band" "high", .meth "Band" "includes", .meth "Band" "room", .meth "Extents" "extent", .meth "Extents" "breakpoints", .meth "Extents" "peaks", .meth "Extents" "best_split", .meth "Extents" "greatest", .meth "Extents" "fewest_pairs", .meth "Walker" "check_free", .meth "Walker" "notify", .meth "Walker" "record", .meth "Walker" "advance", .meth "Walker" "change_goal", .meth "Walker" "undo", .meth "Walker" "current_state", .meth "Walker" "current_goal", .meth "Walker" "budget", .meth "Walker" "player", .meth "Walker" "actions", .meth "Walker" "walked", .meth "Walker" "is_too_far", .meth "Walker" "status", .meth "Walker" "lost_at", .meth "Walker" "clone", .meth "Walker" "__len__", .noat "Extents" "width"]
def faP2 : List He.Fa := [.noat "Extents" "climb", .noat "Extents" "depth", .noat "Extents" "base", .noat "Extents" "limit", .noat "Band" "low_end", .noat "Band" "high_end", .noat "Walker" "limits", .noat "Walker" "own_players", .noat "Walker" "own_observer", .noat "Walker" "is_observed", .noat "Walker" "first_state", .noat "Walker" "situation", .noat "Walker" "own_actions", .noat "Walker" "earlier", .free "isinstance", .free "int", .free "bool", .free "str", .free "tuple", .free "list", .free "all", .free "len", .free "sum", .free "enumerate", .free "min", .free "max", .free "abs", .free "range", .free "set", .free "repr", .free "sorted", .str "LOWERCASE" "abcdefghijklmnopqrstuvwxyz", .int "MAX_NAME_LENGTH" 8, .int "MAX_PLAYERS" 6, .glo "STEPS", .noat "UnknownName" "name", .noat "OutsideBand" "height", .noat "BudgetExceeded" "remaining", .glo "UnknownName", .glo "OutsideBand"]
def faP3 : List He.Fa := [.glo "BudgetExceeded", .glo "NothingToUndo", .meth "UnknownName" "__init__", .meth "OutsideBand" "__init__", .meth "BudgetExceeded" "__init__"]
def faAll : List He.Fa := faP0 ++ faP1 ++ faP2 ++ faP3
/-- what else the head tells: the exceptions' classes, the table of the steps, the class of a Band as isinstance sees it -/
def tailOf (b : List String) : List Value := b.map Value.type
def excFacts (K : PySem.W.Frag) (x : Str) (tl : List Value) (newId : String) : Bool :=
  PySem.W.excInitIn K (He.ga K x) tl newId && (PySem.W.excOver K (He.ga K x) tl && (PySem.W.hasDictIn K (He.ga K x) && (PySem.W.keepIn K (.ref (He.ga K x)) && (decide (PySem.W.subIn K (.ref (He.ga K x)) (.type "BaseException") = some true) &&
    (decide (PySem.W.typeIn K (.ref (He.ga K x)) = some (.type "type")) && (decide (PySem.W.findIn K (.ref (He.ga K x)) "__setattr__" = some (some (.builtin "object.__setattr__"))) && PySem.W.isFn K (.ref (He.ma K (He.ga K x) "__init__"))))))))
def excPlain (K : PySem.W.Frag) (x : Str) (tl : List Value) (newId : String) : Bool :=
  PySem.W.excIn K (He.ga K x) tl newId && (PySem.W.keepIn K (.ref (He.ga K x)) && (decide (PySem.W.subIn K (.ref (He.ga K x)) (.type "BaseException") = some true) && decide (PySem.W.typeIn K (.ref (He.ga K x)) = some (.type "type"))))
def tlKey : List Value := [.type "KeyError", .type "LookupError", .type "Exception", .type "BaseException", .type "object"]
def tlIndex : List Value := [.type "IndexError", .type "LookupError", .type "Exception", .type "BaseException", .type "object"]
def tlRun : List Value := [.type "RuntimeError", .type "Exception", .type "BaseException", .type "object"]
def tlLook : List Value := [.type "LookupError", .type "Exception", .type "BaseException", .type "object"]
def exmB (K : PySem.W.Frag) (x y : Str) (b : Bool) : Bool := decide (PySem.W.exmOne K (.ref (He.ga K x)) (.ref (He.ga K y)) = some b)
def excNames : List Str := ["BudgetExceeded", "NothingToUndo", "OutsideBand", "UnknownName"]
def exOk (K : PySem.W.Frag) : Bool :=
  excFacts K "UnknownName" tlKey "LookupError.__new__" && (excFacts K "OutsideBand" tlIndex "IndexError.__new__" && (excFacts K "BudgetExceeded" tlRun "RuntimeError.__new__" && (excPlain K "NothingToUndo" tlLook "LookupError.__new__" &&
  (excNames.all (fun x => excNames.all fun y => exmB K x y (decide (x = y))) && (He.tupB K "STEPS" [.str "E", .str "W", .str "U", .str "D"] &&
  (decide (PySem.W.kitOne K (.ref (He.ga K "Band")) (.ref (He.ga K "Band")) = some true) && (decide (PySem.W.findIn K (.ref (He.ga K "Band")) "__class__" = some (some (.builtin "object.__class__"))) && (decide (PySem.W.specialIn K (.builtin "object.__class__") "__get__" = some (some (.builtin "getset_descriptor.__get__"))) &&
  (decide (PySem.W.takesIn K (.builtin "object.__class__") = some true) && (decide (PySem.W.mroIn K (He.ga K "Band") (.type "object") = some true) &&
  decide (PySem.W.findIn K (.ref (He.ga K "Walker")) "__len__" = some (some (.ref (He.ma K (He.ga K "Walker") "__len__"))))))))))))))
end Hs
end

/-! HsHead -/
section
set_option Elab.async false
set_option linter.all false
set_option maxRecDepth 100000
set_option maxHeartbeats 0
namespace Hs
open PySem PySem.Spec PyProof.Rows L2
abbrev RR : PySem.W.OpenRow := PySem.W.OpenLaw.row PySem.Challenge.rw_heightsums_k67_whole_histories_of_walker
abbrev qq : PySem.Program := PySem.W.view RR.prog [75]
def nmP0 : List PySem.Str := ["_wall", "WalkError", "InvalidState", "InvalidBand", "InvalidInteger", "InvalidRuns", "InvalidStep", "UnknownName", "OutsideBand", "Unreachable", "NothingToUndo", "BudgetExceeded", "ObserverRunning", "STEPS", "is_integer", "is_count", "is_step", "check_integer", "is_state", "check_state"]
def nmP1 : List PySem.Str := ["apply_to", "difference", "is_run", "check_runs", "append_run", "merge_runs", "total_steps", "run_displacement", "after_runs", "first_steps", "state_after", "Band", "to_band", "check_height", "capped", "depth_of", "Extents", "extents_for", "fewest_pairs", "fewest_steps"]
def nmP2 : List PySem.Str := ["displacement_and_room", "distance_or_none", "distance", "height_outside", "LOWERCASE", "MAX_NAME_LENGTH", "MAX_PLAYERS", "is_name", "are_players", "Walker", "_law_pool", "_law_take", "_law_integer", "_law_ends", "_law_inside", "_law_world", "_law_names", "_law_done", "_law_act", "_law_next"]
def nmP3 : List PySem.Str := ["_law_lost", "_law_same"]
def nmAll : List PySem.Str := nmP0 ++ nmP1 ++ nmP2 ++ nmP3
abbrev hkAl : Type := He.AlD × Bool
def ltP0 : List Addr := [3, 488, 397, 711, 126, 146, 192, 172, 487, 396, 710, 125, 145, 191, 171, 209, 123, 143, 189, 216, 223, 230, 238, 243, 250, 257, 264, 271, 278, 285]
def ltP1 : List Addr := [292, 297, 304, 311, 318, 325, 338, 359, 366, 373, 394, 408, 415, 422, 429, 443, 450, 457, 464, 471, 478, 485, 499, 506, 513, 520, 527, 535, 542, 547]
def ltP2 : List Addr := [552, 568, 575, 582, 589, 597, 604, 612, 619, 626, 633, 640, 647, 652, 659, 666, 680, 694, 701, 722, 729, 736, 743, 750, 757, 762, 769, 776, 783, 788]
def ltP3 : List Addr := [793, 800, 122, 142, 188, 215, 222, 229, 237, 231, 242, 249, 256, 263, 270, 277, 284, 291, 296, 303, 310, 317, 324, 337, 333, 358, 365, 372, 393, 407]
def ltP4 : List Addr := [414, 421, 428, 442, 449, 456, 463, 470, 477, 484, 498, 505, 512, 519, 526, 534, 528, 541, 546, 551, 567, 561, 574, 581, 588, 596, 590, 603, 611, 605]
def ltP5 : List Addr := [618, 625, 632, 639, 646, 651, 658, 665, 679, 693, 700, 721, 728, 735, 742, 749, 756, 761, 768, 775, 782, 787, 792, 799]
def ltAll : List Addr := ltP0 ++ ltP1 ++ ltP2 ++ ltP3 ++ ltP4 ++ ltP5
def hkObs (g : Addr → Option Obj) : hkAl := (He.obsD faAll fnAll (He.frG g ltAll), exOk (He.frG g ltAll))
def hk : PySem.W.Hook where
  α := hkAl
  obs := fun s => hkObs s.heap.get?
  val := fun _ => (He.valD fnAll, true)
  says := fun _ h => ∃ K : PySem.W.Frag, K.In h ∧ He.SaysD faAll fnAll K ∧ exOk K = true
  of := fun _ s e => ⟨He.frG s.heap.get? ltAll, He.frG_in, congrArg (fun z : hkAl => z.1) e, congrArg (fun z : hkAl => z.2) e⟩
  keeps := fun _ _ _ ⟨K, hK, c, x⟩ k => ⟨K, PySem.W.Frag.In.keeps hK k, c, x⟩
def hob (s : PySem.W.SharedT) : hkAl := hkObs (HandSHeadRun.getT s)
theorem hob_eq (s : PySem.W.SharedT) : hob s = hk.obs s.abs := by
  have e : HandSHeadRun.getT s = s.abs.heap.get? := funext (HandSHeadRun.getT_eq s)
  show hkObs (HandSHeadRun.getT s) = hkObs s.abs.heap.get?
  rw [e]
theorem hrun (w : World) : HandSHeadRun.RunEq RR qq hk hob 6000 nmAll w := by
  intro os
  kernel_rfl
end Hs
end

/-! HsRules1 -/
section
set_option Elab.async false
set_option linter.all false
set_option maxRecDepth 100000
set_option maxHeartbeats 4000000
namespace Hs
open PySem PySem.Spec PyProof.Rows L2
/-! ### defs, methods, classes as constants; everything may raise by L2.CX -/
structure Cal (P : Program) (w : World) (K : PySem.W.Frag) (mg : Str → Option Value) (base : Heap) (k : Nat) (x : Str) (sp : Sp) (dvs : List V) : Prop where
  ex : ∃ (f : Addr) (fd : FuncData) (ps : List Str) (ds : List Value), FnOk P w K mg base (L2.CX P w) k f fd ps sp ∧ mg x = some (.ref f) ∧ PySem.W.keepIn K (.ref f) = true ∧ Binds K fd ps ds ∧ Vals dvs ds
/-- called with keywords: n values, the keywords ks, set in order by gV -/
structure CalK (P : Program) (w : World) (K : PySem.W.Frag) (mg : Str → Option Value) (base : Heap) (k : Nat) (x : Str) (sp : Sp) (n : Nat) (ks : List Str) (gV : List V → List V → List V) : Prop where
  ex : ∃ (f : Addr) (fd : FuncData) (ps : List Str) (g : List Value → List Value → List Value), FnOk P w K mg base (L2.CX P w) k f fd ps sp ∧ mg x = some (.ref f) ∧ PySem.W.keepIn K (.ref f) = true ∧ KBn K fd ps n ks g gV
structure Met (P : Program) (w : World) (K : PySem.W.Frag) (mg : Str → Option Value) (base : Heap) (k : Nat) (C : Addr) (m : Str) (sp : Sp) (dvs : List V) : Prop where
  ex : ∃ (f : Addr) (fd : FuncData) (ps : List Str) (ds : List Value), Cls K C ∧ Meth K C m f ∧ FnOk P w K mg base (L2.CX P w) k f fd ps sp ∧ Binds K fd ps ds ∧ Vals dvs ds
structure MetK (P : Program) (w : World) (K : PySem.W.Frag) (mg : Str → Option Value) (base : Heap) (k : Nat) (C : Addr) (m : Str) (sp : Sp) (n : Nat) (ks : List Str) (gV : List V → List V → List V) : Prop where
  ex : ∃ (f : Addr) (fd : FuncData) (ps : List Str) (g : List Value → List Value → List Value), Cls K C ∧ Meth K C m f ∧ FnOk P w K mg base (L2.CX P w) k f fd ps sp ∧ KBn K fd ps (n + 1) ks g gV
structure Mak (P : Program) (w : World) (K : PySem.W.Frag) (mg : Str → Option Value) (base : Heap) (k : Nat) (x : Str) (C : Addr) (sp : Sp) (dvs : List V) : Prop where
  ex : ∃ (f : Addr) (fd : FuncData) (ps : List Str) (ds : List Value), Mk K C f ∧ FnOk P w K mg base (L2.CX P w) k f fd ps sp ∧ mg x = some (.ref C) ∧ Binds K fd ps ds ∧ Vals dvs ds
structure MakK (P : Program) (w : World) (K : PySem.W.Frag) (mg : Str → Option Value) (base : Heap) (k : Nat) (x : Str) (C : Addr) (sp : Sp) (n : Nat) (ks : List Str) (gV : List V → List V → List V) : Prop where
  ex : ∃ (f : Addr) (fd : FuncData) (ps : List Str) (g : List Value → List Value → List Value), Mk K C f ∧ FnOk P w K mg base (L2.CX P w) k f fd ps sp ∧ mg x = some (.ref C) ∧ KBn K fd ps (n + 1) ks g gV
section
variable {X : Cx} {k j n : Nat} {C : Addr} {x m : Str} {sp : Sp} {dvs : List V} {p pos apos : Pos} {e o : Expr} {es : List Expr} {ta : TE} {t tk : TA} {ks : List Str} {gV : List V → List V → List V} {kws : List Keyword}
theorem pe_c (c : Cal X.prog X.w X.K X.mg X.base k x sp dvs) (hr : Room j X.A) (hk : k ≤ j) (ha : PA X (e :: es) t) (hg : Gl X x := by rfl)
    (hdb : (x == ("__debug__" : Str)) = false := by decide) (he : starEach (e :: es) X.env = (false, eval e X.env) :: starEach es X.env := by rfl) (hpl : (backTo pos (starEach es X.env)).any (·.1) = false := by rfl) :
    PE X (.Call (.Name x p) (e :: es) [] pos) (tCall sp dvs E0 t) := by
  obtain ⟨f, fd, ps, ds, F, hm, kp, b, d⟩ := c.ex
  exact pe_call F (hr.mono hk) hg hm kp b d passL ha hdb he hpl
/-- .. what it raises leaves this def too, as E wishes -/
theorem pe_cE {E : XK} (c : Cal X.prog X.w X.K X.mg X.base k x sp dvs) (hr : Room j X.A) (hk : k ≤ j) (hx : Passes (L2.CX X.prog X.w) X E) (ha : PA X (e :: es) t) (hg : Gl X x := by rfl)
    (hdb : (x == ("__debug__" : Str)) = false := by decide) (he : starEach (e :: es) X.env = (false, eval e X.env) :: starEach es X.env := by rfl) (hpl : (backTo pos (starEach es X.env)).any (·.1) = false := by rfl) :
    PE X (.Call (.Name x p) (e :: es) [] pos) (tCall sp dvs E t) := by
  obtain ⟨f, fd, ps, ds, F, hm, kp, b, d⟩ := c.ex
  exact pe_call F (hr.mono hk) hg hm kp b d hx ha hdb he hpl
theorem pe_cK (c : CalK X.prog X.w X.K X.mg X.base k x sp n ks gV) (hr : Room j X.A) (hk : k ≤ j) (ha : PA X (e :: es) t) (hkw : PK X kws tk) (hg : Gl X x := by rfl)
    (hall : (backToKw pos (keywordEach kws X.env)).all (·.1.isSome) = true := by rfl) (hks : (backToKw pos (keywordEach kws X.env)).filterMap (·.1) = ks := by rfl)
    (hdb : (x == ("__debug__" : Str)) = false := by decide) (he : starEach (e :: es) X.env = (false, eval e X.env) :: starEach es X.env := by rfl)
    (hpl : ((backTo pos (starEach (e :: es) X.env)).any (·.1) || (backToKw pos (keywordEach kws X.env)).any (·.1.isNone)) = false := by rfl) :
    PE X (.Call (.Name x p) (e :: es) kws pos) (tCallN n ks.length sp gV E0 t tk) := by
  obtain ⟨f, fd, ps, g, F, hm, kp, b⟩ := c.ex
  exact pe_callN F (hr.mono hk) hg hm kp b passL ha hkw hall hks hdb he hpl
theorem pe_mk (c : Mak X.prog X.w X.K X.mg X.base k x C sp dvs) (hr : Room j X.A) (hk : k + 1 ≤ j) (ha : PA X (e :: es) t) (hg : Gl X x := by rfl)
    (hdb : (x == ("__debug__" : Str)) = false := by decide) (he : starEach (e :: es) X.env = (false, eval e X.env) :: starEach es X.env := by rfl) (hpl : (backTo pos (starEach es X.env)).any (·.1) = false := by rfl) :
    PE X (.Call (.Name x p) (e :: es) [] pos) (tMake C sp dvs E0 t) := by
  obtain ⟨f, fd, ps, ds, M, F, hm, b, d⟩ := c.ex
  exact pe_make M F (hr.mono hk) hg hm b d passL ha hdb he hpl
theorem pe_mkK (c : MakK X.prog X.w X.K X.mg X.base k x C sp n ks gV) (hr : Room j X.A) (hk : k + 1 ≤ j) (ha : PA X (e :: es) t) (hkw : PK X kws tk) (hg : Gl X x := by rfl)
    (hall : (backToKw pos (keywordEach kws X.env)).all (·.1.isSome) = true := by rfl) (hks : (backToKw pos (keywordEach kws X.env)).filterMap (·.1) = ks := by rfl)
    (hdb : (x == ("__debug__" : Str)) = false := by decide) (he : starEach (e :: es) X.env = (false, eval e X.env) :: starEach es X.env := by rfl)
    (hpl : ((backTo pos (starEach (e :: es) X.env)).any (·.1) || (backToKw pos (keywordEach kws X.env)).any (·.1.isNone)) = false := by rfl) :
    PE X (.Call (.Name x p) (e :: es) kws pos) (tMakeK C n ks.length sp gV E0 t tk) := by
  obtain ⟨f, fd, ps, g, M, F, hm, b⟩ := c.ex
  exact pe_makeK M F (hr.mono hk) hg hm b passL ha hkw hall hks hdb he hpl
theorem pe_mt {pl : Sem Bool} (c : Met X.prog X.w X.K X.mg X.base k C m sp dvs) (hr : Room j X.A) (hk : k ≤ j) (he : PE X o ta) (ha : PA X (e :: es) t)
    (hst : starEach (e :: es) X.env = (false, eval e X.env) :: starEach es X.env := by rfl) (hpl : (backTo pos (starEach es X.env)).any (·.1) = false := by rfl)
    (ht : eval (.Call (.Attribute o m apos) (e :: es) [] pos) X.env = (do
      let ov ← eval o X.env
      standAt apos.atName
      let (f, first) ← holding [ov] (getMethod ov m pl)
      callWith pos f first (backTo pos (starEach (e :: es) X.env)) (backToKw pos (keywordEach [] X.env))) := by rfl) :
    PE X (.Call (.Attribute o m apos) (e :: es) [] pos) (tMeth C m sp dvs E0 ta t) := by
  obtain ⟨f, fd, ps, ds, hc, hm, F, b, d⟩ := c.ex
  exact pe_meth (pl := pl) he hc hm F (hr.mono hk) b d passL ha hst hpl ht
theorem pe_mt0 {pl : Sem Bool} (c : Met X.prog X.w X.K X.mg X.base k C m sp dvs) (hr : Room j X.A) (hk : k ≤ j) (he : PE X o ta)
    (ht : eval (.Call (.Attribute o m apos) [] [] pos) X.env = (do
      let ov ← eval o X.env
      standAt apos.atName
      let (f, first) ← holding [ov] (getMethod ov m pl)
      callWith pos f first (backTo pos (starEach [] X.env)) (backToKw pos (keywordEach [] X.env))) := by rfl) :
    PE X (.Call (.Attribute o m apos) [] [] pos) (tMeth C m sp dvs E0 ta tNil) := by
  obtain ⟨f, fd, ps, ds, hc, hm, F, b, d⟩ := c.ex
  exact pe_meth0 (pl := pl) he hc hm F (hr.mono hk) b d passL ht
end
/-! ### method calls whose exceptions are wished for at the caller's slots -/
section
variable {X : Cx} {CX : CXT} {k n : Nat} {f C : Addr} {fd : FuncData} {ps ks : List Str} {sp : Sp} {E : L2.St → XK} {m : Str} {pos apos : Pos} {e o : Expr} {es : List Expr} {ta : TE} {t tk : TA} {kws : List Keyword} {g : List Value → List Value → List Value} {gV : List V → List V → List V}
theorem run_kwS {pins : List (Addr × Obj)} {σ : L2.St} {H : Hp} {s : Shared} {Q : VK} {us ws : List Value} {vs zs : List V} (F : FnOk X.prog X.w X.K X.mg X.base CX k f fd ps sp) (hr : Room k X.A) (hb : KBn X.K fd ps n ks g gV) (hx : PassesAt CX X σ (E σ))
    (I : Inv X pins σ H s) (r : Vals vs us) (rz : Vals zs ws) (l1 : vs.length = n) (l2 : zs.length = ks.length) (h : sp (gV vs zs) H Q (E σ)) : wpAny (model X.prog X.w) X.A (call (.ref f) us (ks.zip ws)) (EP X pins σ Q) X.xe s := by
  have r2 := hb.rel r rz
  have b2 := hb.to s us ws I.kIn (r.length.symm.trans l1) (rz.length.symm.trans l2)
  refine wpAny_call (codeAny_mono (F.run X.A X.stack s H ⟨us, ks.zip ws⟩ (g us ws) (gV vs zs) Q (E σ) hr I.env0 b2 r2 h) fun r s' hq => ?_)
  cases r with
  | error er => exact hx pins H s er s' I hq
  | ok fl => cases fl with
    | ret u => exact I.after hq
    | _ => exact False.elim hq
/-- o.m(.., k = v), an own method -/
def tMethKS (C : Addr) (m : Str) (n l : Nat) (sp : Sp) (gV : List V → List V → List V) (E : L2.St → XK) (ta : TE) (t tk : TA) : TE := fun σ H Q => ta σ H fun x H1 => ∃ a dx fs, x = .ref a ∧ H1 a = some (.ins C dx fs) ∧ fs.lookup m = none ∧
  t σ H1 fun vs H2 => tk σ H2 fun zs H3 => vs.length = n ∧ zs.length = l ∧ sp (gV (x :: vs) zs) H3 Q (E σ)
theorem pe_mKS {pl : Sem Bool} (he : PE X o ta) (c : Cls X.K C) (hm : Meth X.K C m f) (F : FnOk X.prog X.w X.K X.mg X.base CX k f fd ps sp) (hr : Room k X.A) (hb : KBn X.K fd ps (n + 1) ks g gV) (hx : ∀ σ, PassesAt CX X σ (E σ)) (ha : PA X (e :: es) t) (hkw : PK X kws tk)
    (hall : (backToKw pos (keywordEach kws X.env)).all (·.1.isSome) = true := by rfl) (hks : (backToKw pos (keywordEach kws X.env)).filterMap (·.1) = ks := by rfl) (hst : starEach (e :: es) X.env = (false, eval e X.env) :: starEach es X.env := by rfl)
    (hpl : ((backTo pos (starEach (e :: es) X.env)).any (·.1) || (backToKw pos (keywordEach kws X.env)).any (·.1.isNone)) = false := by rfl)
    (ht : eval (.Call (.Attribute o m apos) (e :: es) kws pos) X.env = (do
      let ov ← eval o X.env
      standAt apos.atName
      let (f, first) ← holding [ov] (getMethod ov m pl)
      callWith pos f first (backTo pos (starEach (e :: es) X.env)) (backToKw pos (keywordEach kws X.env))) := by rfl) :
    PE X (.Call (.Attribute o m apos) (e :: es) kws pos) (tMethKS C m n ks.length sp gV E ta t tk) := by
  refine ⟨fun pins s σ H Q I h => ?_⟩
  refine PySem.W.methodCall_KW (pl := pl) (thn (he.run pins s σ H _ I h) fun u s1 ⟨x, H1, I1, rx, a, dx, fs, ex, ea, l, q⟩ => ?_) ht
  subst ex
  obtain rfl : u = Value.ref a := rx
  refine getmeth_ok I1 ea c hm l ?_
  refine PySem.W.callWith_KW (first := [.ref a]) (h₀ := X.base) I.ok.mod.kin hm.kp hall (thn (ha.run pos pins s1 σ H1 _ I1 q) fun us s2 ⟨vs, H2, I2, r, q2⟩ => ?_) hpl hst
  refine thn (hkw.run pos pins s2 σ H2 _ I2 q2) fun ws s3 ⟨zs, H3, I3, rz, l1, l2, q3⟩ => ⟨I3.kIn, ?_⟩
  rw [hks]
  exact run_kwS (us := .ref a :: us) (vs := .ref a :: vs) F hr hb (hx σ) I3 (.cons rfl r) rz (congrArg Nat.succ l1) l2 q3
theorem pe_mKS0 {pl : Sem Bool} (he : PE X o ta) (c : Cls X.K C) (hm : Meth X.K C m f) (F : FnOk X.prog X.w X.K X.mg X.base CX k f fd ps sp) (hr : Room k X.A) (hb : KBn X.K fd ps 1 ks g gV) (hx : ∀ σ, PassesAt CX X σ (E σ)) (hkw : PK X kws tk)
    (hall : (backToKw pos (keywordEach kws X.env)).all (·.1.isSome) = true := by rfl) (hks : (backToKw pos (keywordEach kws X.env)).filterMap (·.1) = ks := by rfl)
    (hpl : ((backTo pos (starEach [] X.env)).any (·.1) || (backToKw pos (keywordEach kws X.env)).any (·.1.isNone)) = false := by rfl)
    (ht : eval (.Call (.Attribute o m apos) [] kws pos) X.env = (do
      let ov ← eval o X.env
      standAt apos.atName
      let (f, first) ← holding [ov] (getMethod ov m pl)
      callWith pos f first (backTo pos (starEach [] X.env)) (backToKw pos (keywordEach kws X.env))) := by rfl) :
    PE X (.Call (.Attribute o m apos) [] kws pos) (tMethKS C m 0 ks.length sp gV E ta tNil tk) := by
  refine ⟨fun pins s σ H Q I h => ?_⟩
  refine PySem.W.methodCall_KW (pl := pl) (thn (he.run pins s σ H _ I h) fun u s1 ⟨x, H1, I1, rx, a, dx, fs, ex, ea, l, q⟩ => ?_) ht
  subst ex
  obtain rfl : u = Value.ref a := rx
  refine getmeth_ok I1 ea c hm l ?_
  refine PySem.W.callWith_KW0 (first := [.ref a]) (h₀ := X.base) I.ok.mod.kin hm.kp hall ?_ hpl
  refine thn (hkw.run pos pins s1 σ H1 _ I1 q) fun ws s3 ⟨zs, H3, I3, rz, l1, l2, q3⟩ => ⟨I3.kIn, ?_⟩
  rw [hks]
  exact run_kwS (us := [.ref a]) (vs := [.ref a]) F hr hb (hx σ) I3 (.cons rfl .nil) rz rfl l2 q3
/-- o.m(e, ..) -/
def tMethS (C : Addr) (m : Str) (sp : Sp) (E : L2.St → XK) (ta : TE) (t : TA) : TE := fun σ H Q => ta σ H fun x H1 => ∃ a dx fs, x = .ref a ∧ H1 a = some (.ins C dx fs) ∧ fs.lookup m = none ∧ t σ H1 fun vs H2 => sp (x :: vs) H2 Q (E σ)
theorem pe_mS {pl : Sem Bool} (he : PE X o ta) (c : Cls X.K C) (hm : Meth X.K C m f) (F : FnOk X.prog X.w X.K X.mg X.base CX k f fd ps sp) (hr : Room k X.A) (hb : Binds X.K fd ps []) (hx : ∀ σ, PassesAt CX X σ (E σ)) (ha : PA X (e :: es) t)
    (hst : starEach (e :: es) X.env = (false, eval e X.env) :: starEach es X.env := by rfl) (hpl : (backTo pos (starEach es X.env)).any (·.1) = false := by rfl)
    (ht : eval (.Call (.Attribute o m apos) (e :: es) [] pos) X.env = (do
      let ov ← eval o X.env
      standAt apos.atName
      let (f, first) ← holding [ov] (getMethod ov m pl)
      callWith pos f first (backTo pos (starEach (e :: es) X.env)) (backToKw pos (keywordEach [] X.env))) := by rfl) :
    PE X (.Call (.Attribute o m apos) (e :: es) [] pos) (tMethS C m sp E ta t) := by
  refine ⟨fun pins s σ H Q I h => ?_⟩
  refine PySem.W.methodCall_KW (pl := pl) (thn (he.run pins s σ H _ I h) fun u s1 ⟨x, H1, I1, rx, a, dx, fs, ex, ea, l, q⟩ => ?_) ht
  subst ex
  obtain rfl : u = Value.ref a := rx
  refine getmeth_ok I1 ea c hm l ?_
  refine PySem.W.callWith_K (first := [.ref a]) (h₀ := X.base) I.ok.mod.kin hm.kp (thn (ha.run pos pins s1 σ H1 _ I1 q) fun us s2 ⟨vs, H2, I2, r, q2⟩ => ⟨I2.kIn, ?_⟩) hst hpl
  exact run_fnS (us := .ref a :: us) (vs := .ref a :: vs) F hr hb (hx σ) I2 (.cons rfl r) q2
end
/-! ### repr of data, where no repr is under way -/
section
variable {X : Cx}
def rReprD (K : PySem.W.Frag) : List V → Hp → VK → Prop := fun vs H Q => ∃ (a : Addr) (d : PyData), vs = [.ref a] ∧ Dp K H (.ref a) d ∧ d.showable = true ∧ d.hasDict = false ∧ d.depth ≤ 40 ∧ d.shown.length ≤ sizeLine ∧ Q (.str d.shown) H
theorem cr_repr {k : Nat} (hg : X.A.guards = some []) (hr : Room k X.A) : CallR X (.builtin "repr") (rReprD X.K) := by
  intro pins s σ H vs us Q I r h
  obtain ⟨a, d, rfl, hd, h1, h2, h3, h4, q⟩ := h
  obtain ⟨u, rfl, ru⟩ := vals1 r
  obtain ⟨as, rd⟩ := Dp.reads I d _ u hd ru
  obtain rfl : u = Value.ref a := ru
  refine repr_of_reads' rd h1 (fun z => by rw [h2] at z; cases z) hg (by have := hr.units; omega) (fun _ _ z => z) (fun h' u tk hk => ?_) h4
  exact ⟨.str d.shown, H, I.kept (h' := h') (t' := tk) hk, ⟨u, rfl⟩, q⟩
end
end Hs
end

/-! HsRules2 -/
section
set_option Elab.async false
set_option linter.all false
set_option maxRecDepth 100000
set_option maxHeartbeats 4000000
namespace Hs
open PySem PySem.Spec PyProof.Rows L2
/-! ### promises of defs that are run where no repr is under way -/
structure FnG (P : Program) (w : World) (K : PySem.W.Frag) (mg : Str → Option Value) (base : Heap) (CX : CXT) (k : Nat) (f : Addr) (fd : FuncData) (ps : List Str) (sp : Sp) : Prop where
  len : ∀ vs H Q E, sp vs H Q E → vs.length = ps.length
  run : ∀ (A : Around) (outer : List Env) (s : Shared) (H : Hp) (args : Args) (us : List Value) (vs : List V) (Q : VK) (E : XK), A.guards = some [] → Room k A → Env0 P w K mg base A outer s H → BindsTo s fd args (ps.zip us) → Vals vs us → sp vs H Q E →
    codeAny (model P w) A (.call (.ref f) args) (CR CX outer P w H s Q E) s
/-- a def's body where no repr is under way: by fn_of, whose promise is asked at those arounds alone -/
theorem fnG_of {CX : CXT} {P : Program} {w : World} {K : PySem.W.Frag} {mg : Str → Option Value} {base : Heap} {k : Nat} {f : Addr} {name qual : Str} {params : Arguments} {body : List Stmt} {scope : Scope} {dV kV doc pm cdv ct oc : Value} {an od : Option Addr}
    {osl : Array (Option Value)} {N ps : List Str} {sp : Sp} (lk : K.lookup f = some ⟨oc, od, .func (PySem.W.fnOf name qual params body scope dV kV doc pm an cdv ct), osl⟩) (hcd : PySem.W.codeIn K cdv qual = true) (S : FnScope N ps scope)
    (len : ∀ vs H Q E, sp vs H Q E → vs.length = ps.length)
    (hbody : ∀ (A : Around) (outer : List Env) (s : Shared) (H : Hp) (vs : List V) (Q : VK) (E : XK), A.guards = some [] → Room k (A.deeper (envOfC qual scope s.heap.objs.size f cdv)) → sp vs H Q E →
      ∃ t, PSs (cxOf CX P w K mg base N qual scope f cdv A outer s H E) body t ∧ t { nx := fun _ H' => Q .non H', rt := Q } (start N vs) H) :
    FnG P w K mg base CX (k + 1) f (PySem.W.fnOf name qual params body scope dV kV doc pm an cdv ct) ps sp := by
  refine ⟨len, fun A outer s H args us vs Q E hgd hr e0 hb r hsp => ?_⟩
  have hl := len _ _ _ _ hsp
  have KX : K.In s.heap := e0.mod.kin.keeps fun b o e => (e0.bs b o e).1
  have lim : s.heap.NoLimit := e0.mod.nolimit.keeps fun b o e => (e0.bs b o e).1
  have hkind : ∀ y ∈ ps.zip us, scope.names.lookup y.1 = some .local ∨ (scope.names.lookup y.1 = some .cell ∧ ((cellsFrom (s.heap.objs.size + 1) scope.names []).lookup y.1).isSome = true) := by
    rintro ⟨n, v⟩ hy
    rcases S.par n (List.of_mem_zip hy).1 with q | q
    · exact .inl q
    · exact .inr ⟨q, PySem.W.cellsFrom_some _ _ _ (.inl q)⟩
  refine codeAny_call_function hr.depth (KX _ _ lk) rfl S.co S.gen rfl (PySem.W.codeRec_of KX hcd) (hb _ _ _ _ ?_)
  refine wpAny_newFunctionEnv_cells S.kind hkind fun env he s1 x => ?_
  subst he
  refine ⟨lim.keeps x.toInCall.keep, codeAny_func ?_⟩
  obtain ⟨t, ht, hq⟩ := hbody A outer s H vs Q E hgd (hr.deeper _) hsp
  have I := inv_start (CX := CX) (E := E) S hr.hd e0 hl r x
  refine wpAny_mono (ht.run [] s1 (start N vs) H _ I hq) (fun fl s' hs => ?_) fun e s' hs => hs
  cases fl with
  | ret u =>
    obtain ⟨v, σ', H', J, rv, q⟩ := hs
    exact ⟨v, H', J.os, J.bare, J.base, J.hok, rv, q⟩
  | next =>
    obtain ⟨σ', H', J, q⟩ := hs
    exact ⟨V.non, H', J.os, J.bare, J.base, J.hok, rfl, q⟩
  | brk => exact hs.elim fun _ z => z.elim fun _ z => z.2.elim
  | cont => exact hs.elim fun _ z => z.elim fun _ z => z.2.elim
section
variable {P : Program} {w : World} {K : PySem.W.Frag} {mg : Str → Option Value} {base : Heap} {x qual : Str} {params : Arguments} {body : List Stmt} {scope : Scope} {dvs : List V} {kws : List (Str × V)} {f : Addr} {fd : FuncData}
theorem funD_okG {CX : CXT} {N ps : List Str} {k : Nat} {sp : Sp} (F : FunD K x qual params body scope dvs kws f fd) (S : FnScope N ps scope) (len : ∀ vs H Q E, sp vs H Q E → vs.length = ps.length)
    (hbody : ∀ (cdv : Value) (A : Around) (outer : List Env) (s : Shared) (H : Hp) (vs : List V) (Q : VK) (E : XK), A.guards = some [] → Room k (A.deeper (envOfC qual scope s.heap.objs.size f cdv)) → sp vs H Q E →
      ∃ t, PSs (cxOf CX P w K mg base N qual scope f cdv A outer s H E) body t ∧ t { nx := fun _ H' => Q .non H', rt := Q } (start N vs) H) : FnG P w K mg base CX (k + 1) f fd ps sp := by
  obtain ⟨oc, od, dV, kV, doc, pm, an, cdv, ct, osl, rfl, lk, hcd, _, _⟩ := F.ex
  exact fnG_of lk hcd S len fun A outer s H vs Q E hg hr hsp => hbody cdv A outer s H vs Q E hg hr hsp
end
section
variable {X : Cx} {CX : CXT} {k : Nat} {f : Addr} {fd : FuncData} {ps : List Str} {sp : Sp} {E : XK} {x : Str} {p pos : Pos} {e : Expr} {es : List Expr} {t : TA}
/-- f(e, ..) of such a def -/
theorem pe_callG (F : FnG X.prog X.w X.K X.mg X.base CX k f fd ps sp) (hgd : X.A.guards = some []) (hr : Room k X.A) (hm : X.mg x = some (.ref f)) (hk : PySem.W.keepIn X.K (.ref f) = true) (hb : Binds X.K fd ps []) (hx : Passes CX X E)
    (ha : PA X (e :: es) t) (hg : Gl X x := by rfl) (hdb : (x == ("__debug__" : Str)) = false := by decide) (he : starEach (e :: es) X.env = (false, eval e X.env) :: starEach es X.env := by rfl) (hpl : (backTo pos (starEach es X.env)).any (·.1) = false := by rfl) :
    PE X (.Call (.Name x p) (e :: es) [] pos) (tCall sp [] E t) := by
  refine ⟨fun pins s σ H Q I h => ?_⟩
  refine wpAny_Call_Name_kw (ld_glob I hg hm ?_ hdb)
  refine PySem.W.callWith_K (h₀ := X.base) I.ok.mod.kin hk (thn (ha.run pos pins s σ H _ I h) fun us s1 ⟨vs, H1, I1, r, q⟩ => ⟨I1.kIn, ?_⟩) he hpl
  have q : sp (vs ++ []) H1 Q E := q
  rw [List.append_nil] at q
  have hl : us.length = ps.length := by rw [← r.length]; exact F.len _ _ _ _ q
  have b := hb s1 us I1.kIn (by rw [List.append_nil]; exact hl)
  rw [List.append_nil] at b
  refine wpAny_call (codeAny_mono (F.run X.A X.stack s1 H1 ⟨us, []⟩ us vs Q E hgd hr I1.env0 b r q) fun r s' hq => ?_)
  cases r with
  | error er => exact hx pins σ H1 s1 er s' I1 hq
  | ok fl => cases fl with
    | ret u => exact I1.after hq
    | _ => exact False.elim hq
end
/-! ### the law's end -/
/-- H tracks at most the script a, which is no object of the module -/
structure Scr (K : PySem.W.Frag) (h : Heap) (a : Addr) (H : Hp) : Prop where
  at_ : ∀ b, H b ≠ none → b = a
  out : H a ≠ none → K.lookup a = none
/-- the call of the law's def, from such an H: the base is the heap without what H tracks -/
theorem law_core {P : Program} {w : World} {K : PySem.W.Frag} {mg mb : Str → Option Value} {CX : CXT} {k : Nat} {fa a : Addr} {fd : FuncData} {x : Str} {sp : Sp} {s₁ : Shared} {lo : Obj} {H : Hp} {its : Array Value}
    (KX : K.In s₁.heap) (hns : s₁.heap.Ns mainGlobals mg) (hb : s₁.heap.Ns builtinsNs mb) (hbb : ∀ x : Str, x ≠ "__name__" → mb x = bootBuiltins x) (hlim : s₁.heap.NoLimit) (hg : s₁.gens = #[])
    (ha : s₁.heap.get? a = some lo) (hlo : ∃ n, lo.data = .seq its n) (hr : Room k callerA)
    (F : ∀ base : Heap, K.In base → base.Ns mainGlobals mg → FnG P w K mg base CX k fa fd [x] sp) (hbind : ∀ (s : Shared) (u : Value), BindsTo s fd ⟨[u], []⟩ [(x, u)])
    (hO : Only H) (hok : HOk P w H s₁.heap) (sc : Scr K s₁.heap a H) (hsp : sp [.ref a] H (fun v _ => v = .bl true) fun _ _ _ => False)
    (hCX : ∀ H e s', CX [] H s₁ (fun _ _ _ => False) e s' → False) :
    codeAny (model P w) callerA (.call (.ref fa) ⟨[.ref a], []⟩) (fun r s' => r = .ok (.ret (.bool true)) ∧ OldK s₁.heap s'.heap ∧ s'.os = s₁.os ∧ AllBare s'.gens) s₁ := by
  -- an untracked object stands in the base
  have free_of : ∀ {b : Addr}, (b = a → H a = none) → H b = none := fun {b} h => by
    by_cases e : H b = none
    · exact e
    · have eb := sc.at_ b e
      rw [eb]
      exact h eb
  have nsK : ∀ {b : Addr} {m : Str → Option Value}, s₁.heap.Ns b m → (hidT s₁.heap H).Ns b m := fun {b m} hn => by
    obtain ⟨o, es, ep, e, d, r⟩ := hn
    refine ⟨o, es, ep, hidT_get e (free_of fun eb => ?_), d, r⟩
    obtain ⟨n, hd⟩ := hlo
    rw [eb, ha] at e
    cases e
    rw [hd] at d
    cases d
  have hKb : K.In (hidT s₁.heap H) := fun b o e => hidT_get (KX b o e) (free_of fun eb => by
    by_cases z : H a = none
    · exact z
    · have y := sc.out z
      rw [← eb, e] at y
      cases y)
  have lim : (hidT s₁.heap H).NoLimit := hlim.elim fun mc h => ⟨mc, nsK h.1, h.2⟩
  have e0 : Env0 P w K mg (hidT s₁.heap H) callerA [] s₁ H :=
    { frames := rfl, mod := ⟨hKb, nsK hns, ⟨mb, nsK hb, hbb⟩, lim⟩, bs := fun b o e => of_hidT e, bsz := Nat.le_of_eq (hidT_size _ _), funs := trivial,
      frf := fun b hm => absurd (show b ∈ ([] : List Addr) from hm) List.not_mem_nil, hok := hok, bare := .of_eq hg }
  refine codeAny_mono ((F _ hKb (nsK hns)).run callerA [] s₁ H ⟨[.ref a], []⟩ [.ref a] [.ref a] _ _ rfl hr e0 (hbind s₁ (.ref a)) (.cons rfl .nil) hsp) fun r s' h => ?_
  cases r with
  | error e => exact (hCX H e s' h).elim
  | ok fl => cases fl with
    | ret u =>
      obtain ⟨v, H', os, bare, un, hok', r', q⟩ := h
      have q' : v = .bl true := q
      subst q'
      obtain rfl : u = Value.bool true := r'
      refine ⟨rfl, OldK.of_keep fun b o e => ?_, os, bare⟩
      rcases hO b with z | ⟨ob, xs, z⟩
      · exact un.keep b o e z (fun y => absurd (show b ∈ ([] : List Addr) from y) List.not_mem_nil) (fun y => absurd (show b ∈ ([] : List Addr) from y) List.not_mem_nil)
      · have e1 := (hok b _ z).1
        rw [e] at e1
        cases e1
        exact (hok' b _ (un.frzs b _ _ z)).1
    | _ => exact False.elim h
theorem law_at {P : Program} {w : World} {K : PySem.W.Frag} {mg mb : Str → Option Value} {CX : CXT} {k : Nat} {fa a : Addr} {fd : FuncData} {x : Str} {sp : Sp} {s₁ : Shared} {vs : List Value} {ns : List Int}
    (KX : K.In s₁.heap) (hns : s₁.heap.Ns mainGlobals mg) (hb : s₁.heap.Ns builtinsNs mb) (hbb : ∀ x : Str, x ≠ "__name__" → mb x = bootBuiltins x) (hlim : s₁.heap.NoLimit) (hg : s₁.gens = #[])
    (ha : s₁.heap.get? a = some { cls := .type "list", data := .seq vs.toArray }) (hi : IntsAre vs ns) (hl : ns.length ≤ sizeLine) (hr : Room k callerA)
    (F : ∀ base : Heap, K.In base → base.Ns mainGlobals mg → FnG P w K mg base CX k fa fd [x] sp) (hbind : ∀ (s : Shared) (u : Value), BindsTo s fd ⟨[u], []⟩ [(x, u)])
    (hsp : ∀ H : Hp, Only H → SqL K H a (ns.map V.int) → sp [.ref a] H (fun v _ => v = .bl true) fun _ _ _ => False)
    (hCX : ∀ H e s', CX [] H s₁ (fun _ _ _ => False) e s' → False) :
    codeAny (model P w) callerA (.call (.ref fa) ⟨[.ref a], []⟩) (fun r s' => r = .ok (.ret (.bool true)) ∧ OldK s₁.heap s'.heap ∧ s'.os = s₁.os ∧ AllBare s'.gens) s₁ := by
  have rv := vals_ints hi
  have lenV := hi.length
  cases hk : K.lookup a with
  | some o =>
    have e := KX a o hk
    rw [ha] at e
    cases e
    have hO : Only (fun _ => none) := fun _ => .inl rfl
    refine law_core (H := fun _ => none) KX hns hb hbb hlim hg ha ⟨_, rfl⟩ hr F hbind hO (fun b u z => nomatch (show (none : Option HO) = some u from z)) ⟨fun b z => absurd rfl z, fun z => absurd rfl z⟩ (hsp _ hO (.inr ?_)) hCX
    exact ⟨_, vs.toArray, _, hk, rfl, rfl, rfl, by rw [List.size_toArray, lenV]; exact hl, by simpa using rv⟩
  | none =>
    have hO : Only (upd (fun _ => none) a (.frz { cls := .type "list", data := .seq vs.toArray } (.lst (ns.map V.int)))) := fun b => by
      by_cases e : b = a
      · rw [e]; exact .inr ⟨_, _, upd_same⟩
      · exact .inl (upd_ne e)
    refine law_core (H := upd (fun _ => none) a (.frz { cls := .type "list", data := .seq vs.toArray } (.lst (ns.map V.int)))) KX hns hb hbb hlim hg ha ⟨_, rfl⟩ hr F hbind hO (fun b u z => ?_) ⟨fun b z => ?_, fun _ => hk⟩ (hsp _ hO (.inl (.inr ⟨_, upd_same⟩))) hCX
    · by_cases e : b = a
      · rw [e, upd_same] at z
        cases z
        rw [e]
        exact ⟨ha, by rw [List.length_map]; exact hl, vs, _, rv, ha⟩
      · rw [upd_ne e] at z
        cases z
    · by_cases e : b = a
      · exact e
      · exact absurd (upd_ne e) z
theorem walk_ofG {l : PySem.W.OpenLaw} {n k : Nat} {q : Program} {loose : List Str} {XP : (Str → Option Value) → Heap → Prop} {YP : World → Heap → Prop} {d : DefRec} {x : Str}
    (hn : l.most = some n) (hn2 : n ≤ sizeLine) (hdf : d.params.defaults = []) (hr : Room k callerA)
    (F : ∀ (w : World) (mg : Str → Option Value) (fa : Addr) (h : Heap), YP w h → h.Ns mainGlobals mg → mg d.name = some (.ref fa) →
      ∃ (K : PySem.W.Frag) (fd : FuncData) (sp : Sp), K.In h ∧ (∀ (s : Shared) (u : Value), BindsTo s fd ⟨[u], []⟩ [(x, u)]) ∧
        (∀ (H : Hp) (a : Addr) (ns : List Int), ns.length ≤ n → Only H → SqL K H a (ns.map V.int) → sp [.ref a] H (fun v _ => v = .bl true) fun _ _ _ => False) ∧
        ∀ base : Heap, K.In base → base.Ns mainGlobals mg → FnG l.prog w K mg base (L2.CX l.prog w) k fa fd [x] sp) :
    PySem.W.WalkO q loose XP YP l.row.toRowW d [] (fun f vs => PySem.call f vs) := by
  refine Att.attach_call hn hdf fun w s₀ s₁ mg mb fa o pm cd doc a vs ns G Y ho hd hcd hmg hobj hints hlen hg => ?_
  obtain ⟨K, fd, sp, KX, hb, hsp, hF⟩ := F w mg fa _ Y G.T.g hmg
  exact law_at KX G.T.g G.T.b G.T.builtins G.T.nolimit hg hobj hints (Nat.le_trans hlen hn2) hr hF hb (fun H hO hS => hsp H a ns hlen hO hS) fun H e s' z => by
    obtain ⟨_, _, _, _, _, _, _, _, _, _, _, _, z⟩ := z
    exact z
end Hs
end

/-! HsRules3 -/
section
set_option Elab.async false
set_option linter.all false
set_option maxRecDepth 100000
set_option maxHeartbeats 8000000
/-! a try whose one clause names a tuple of four classes and binds a name; every exception that comes is one of them -/
namespace Hs
open PySem PySem.Spec PyProof.Rows L2
/-- an exception in flight, where every object is kept -/
theorem flying_kept {B h h' : Heap} {l : List Env} {a : Addr} {Z : Obj → Prop} (fl : HandSPX.FlyingZ B l a Z h) (k : ∀ b o, h.get? b = some o → h'.get? b = some o) : HandSPX.FlyingZ B l a Z h' := by
  obtain ⟨f1, f2, f3, oe, vs, T, oT, ts, t1, t2, t3, t4, t5, t6, t7, t8, t9⟩ := fl
  exact ⟨fun b o e => k b o (f1 b o e), f2, Heap.FunFrames.of_keeps (fun b o e _ => ⟨o, k b o e, rfl⟩) f3, oe, vs, T, oT, ts, k _ _ t1, t2, t3, t4, t5, t6, k _ _ t7, t8, t9⟩
/-- what the clause wishes: the class is one of the four -/
def wTup (K : PySem.W.Frag) (c1 c2 c3 c4 : Value) (i : Nat) (ts : Addr → Value → Option Addr → TS) (D : Ends) : WX := fun cls d σ H =>
  PySem.W.exmAny K cls [c1, c2, c3, c4] = some true ∧
  ∀ a, H a = none → ts a cls d { nx := fun σ' H' => D.nx (σ'.set i none) H', rt := D.rt, bk := fun σ' H' => D.bk (σ'.set i none) H', ct := fun σ' H' => D.ct (σ'.set i none) H' } (σ.set i (some (.ref a))) H
/-- a class of the module, by its name -/
def NamG (X : Cx) (x : Str) (c : Value) : Prop := Gl X x ∧ (x == ("__debug__" : Str)) = false ∧ X.mg x = some c
section
variable {X : Cx} {x1 x2 x3 x4 n : Str} {c1 c2 c3 c4 : Value} {i kk : Nat} {body suite : List Stmt} {b₀ : Stmt} {p1 p2 p3 p4 tpos pos pos' : Pos} {tb : WX → TS} {ts : Addr → Value → Option Addr → TS}
theorem ps_try_asT (hs : X.stack = X.env :: X.outer) (hf : X.env.frame = some X.env.locals) (hN : X.N.Nodup) (hi : X.N[i]? = some n) (hln : X.env.kindOf n = some .local) (g1 : NamG X x1 c1) (g2 : NamG X x2 c2) (g3 : NamG X x3 c3) (g4 : NamG X x4 c4)
    (hb : ∀ (W : WX) (pn : List (Addr × Obj)) (xe : Value → Shared → Prop), Takes (X.tr pn xe) W → PassesOwn (model X.prog X.w) X.A X.env xe → PSs (X.tr pn xe) body (tb W))
    (hsu : ∀ (a : Addr) (oe : Obj) (cls : Value) (d : Option Addr) (pn : List (Addr × Obj)), Zc cls d oe → (∃ vs, oe.data = .fields vs) → PSs (X.suite a ((a, oe) :: pn)) (b₀ :: suite) (ts a cls d)) :
    PS X (.Try body [.ExceptHandler (some (.Tuple [.Name x1 p1, .Name x2 p2, .Name x3 p3, .Name x4 p4] kk tpos)) (some n) (b₀ :: suite) pos'] [] [] pos) (fun D σ H => tb (wTup X.K c1 c2 c3 c4 i ts D) D σ H) := by
  refine ⟨fun pins s σ H D I h => ?_⟩
  have ok := I.ok
  have hfr : X.A.frames = some (X.env :: X.outer) := by rw [ok.frames, hs]
  refine wpAny_Try_except ?_
  refine wpAny_mono ((hb (wTup X.K c1 c2 c3 c4 i ts D) (X.pn ++ pins) (fun e s₁ => wpAny (model X.prog X.w) X.A (noteFrame e X.env) (fun _ s₂ => wpAny (model X.prog X.w) X.A (setFlight e none) (fun _ s₃ =>
    wpAny (model X.prog X.w) X.A (handleBy e X.env [.ExceptHandler (some (.Tuple [.Name x1 p1, .Name x2 p2, .Name x3 p3, .Name x4 p4] kk tpos)) (some n) (b₀ :: suite) pos']) (SP X pins D) X.xe s₃) X.xe s₂) X.xe s₁)
    (fun u s' xx => ?_) PassesOwn.looking).run [] s σ H D (I.toTry _) h) (fun f s1 hsp => ?_) (fun e s1 he => he)
  · obtain ⟨a, B, sI, pins', σ', H', cls, d, rfl, J', nb, up, sky, na, os, ag, hm, hyes⟩ := xx
    have J : Inv X pins σ' H' sI := J'.ofTry ok
    have sky' : Sky B (X.env :: X.outer) a (Zc cls d) X.env.locals s'.heap := by rw [← hs]; exact sky
    show wpAny (model X.prog X.w) X.A (noteFrame (.ref a) X.env) _ _ _
    refine Sky.land Zc.steady hfr hf sky' fun h3 fl3 up3 => ?_
    have J3 : Inv X pins σ' H' { s' with heap := h3 } := J.landed nb fl3.1 (up.trans up3) os ag
    obtain ⟨oe3, vs3, he3, hz3, hd3⟩ := fl3.there
    have nfr : a ∉ frs (X.env :: X.outer) := fun hm => by
      obtain ⟨_, o', e', hnf⟩ := fl3.2.2.1.mem hm
      rw [he3] at e'; cases e'
      exact hnf _ hd3
    have nL : a ≠ X.env.locals := fun z => nfr (List.mem_filterMap.mpr ⟨X.env, List.mem_cons_self, by rw [hf, z]⟩)
    have nF : a ∉ X.fs := fun hm => by
      obtain ⟨e, he, q⟩ := List.mem_filterMap.mp hm
      exact nfr (List.mem_filterMap.mpr ⟨e, List.mem_cons_of_mem _ he, q⟩)
    have S3 := J3.suite he3 hd3 na nL nF
    refine wpAny_handleBy_cons (codeAny_handlers_test ?_) (by intro q; cases q)
    -- the tuple of the classes
    have ld : ∀ {x : Str} {c : Value} {p : Pos} {Q : Value → Shared → Prop} {E : Value → Shared → Prop}, NamG X x c → Q c { s' with heap := h3 } → wpAny (model X.prog X.w) (X.A.mark (some (.ref a))) (eval (.Name x p) X.env) Q E { s' with heap := h3 } :=
      fun {x c p Q E} g q => ld_glob (X := X.suite a ((a, oe3) :: (X.pn ++ pins))) S3 g.1 g.2.2 q g.2.1
    refine wpAny_Tuple_spliced ?_
    show wpAny _ _ (spliced [(false, eval (.Name x1 p1) X.env), (false, eval (.Name x2 p2) X.env), (false, eval (.Name x3 p3) X.env), (false, eval (.Name x4 p4) X.env)]) _ _ _
    refine Calls.spliced_cons (ld g1 (Calls.spliced_cons (ld g2 (Calls.spliced_cons (ld g3 (Calls.spliced_cons (ld g4 (Calls.spliced_nil ?_))))))))
    refine ⟨(by decide : 4 ≤ sizeLine), ?_⟩
    have kp : ∀ b o, h3.get? b = some o → (h3.push { cls := .type "tuple", data := .seq [c1, c2, c3, c4].toArray }).get? b = some o := fun b o e => Heap.get?_push_of_some _ e
    have hpT : (h3.push { cls := .type "tuple", data := .seq [c1, c2, c3, c4].toArray }).get? h3.objs.size = some { cls := .type "tuple", data := .seq [c1, c2, c3, c4].toArray } := Heap.get?_push_size _ rfl
    have flP := flying_kept fl3 kp
    have LT : PySem.W.Looks (model X.prog X.w) (h3.push { cls := .type "tuple", data := .seq [c1, c2, c3, c4].toArray }) (typeOf (.ref a)) cls := fun A Q E s k q => wpAny_typeOf_ref (k _ _ (kp _ _ he3)) (by rw [hz3.1]; exact q)
    have LM := PySem.W.exm_tup4 (M := model X.prog X.w) (J3.kIn.keeps kp) LT hpT hm
    refine LM.here ?_
    have upP : h3.UpToSlots (h3.push { cls := .type "tuple", data := .seq [c1, c2, c3, c4].toArray }) := Heap.UpToSlots.of_keeps kp
    refine codeAny_handlers_suite_as ?_
    refine HandSPX.lands_againZ flP fun h4 fl4 up4 => ?_
    have J4 : Inv X pins σ' H' { s' with heap := h4 } := J.landed nb fl4.1 (((up.trans up3).trans upP).trans up4) os ag
    obtain ⟨oe4, vs4, he4, hz4, hd4⟩ := fl4.there
    have S4 := J4.suite he4 hd4 na nL nF
    refine store_ok (X := X.suite a ((a, oe4) :: (X.pn ++ pins))) (v := .ref a) S4 hN hi (.inl hln) rfl (fun s5 S5 => ?_) (.inr hln)
    refine wpAny_mono ((hsu a oe4 cls d (X.pn ++ pins) hz4 ⟨_, hd4⟩).run [] s5 _ H' _ S5 (hyes a na)) (fun f s6 hsp => ?_) (fun _ _ z => False.elim z)
    have end_ : ∀ {σ6 : L2.St} {H6 : Hp} {Q : Shared → Prop}, Inv (X.suite a ((a, oe4) :: (X.pn ++ pins))) [] σ6 H6 s6 → (∀ s7, Inv X pins (σ6.set i none) H6 s7 → Q s7) →
        wpAny (model X.prog X.w) X.A (do bindName X.env n .none; unbindBehindTheSuite X.env n pos') (fun _ s7 => Q s7) X.xe s6 := fun {σ6 H6 Q} S6 hq => gone_ok (S6.unsuite ok) hN hi hln hq
    cases f with
    | ret u =>
      obtain ⟨v6, σ6, H6, S6, r6, q6⟩ := hsp
      exact end_ S6 fun s7 J7 => ⟨_, _, _, J7, r6, q6⟩
    | next =>
      obtain ⟨σ6, H6, S6, q6⟩ := hsp
      exact end_ S6 fun s7 J7 => ⟨_, _, J7, q6⟩
    | brk =>
      obtain ⟨σ6, H6, S6, q6⟩ := hsp
      exact end_ S6 fun s7 J7 => ⟨_, _, J7, q6⟩
    | cont =>
      obtain ⟨σ6, H6, S6, q6⟩ := hsp
      exact end_ S6 fun s7 J7 => ⟨_, _, J7, q6⟩
  · cases f with
    | next =>
      obtain ⟨σ', H', J', q⟩ := hsp
      exact wpAny_execs_nil ⟨σ', H', J'.ofTry ok, q⟩
    | ret u =>
      obtain ⟨v, σ', H', J', r, q⟩ := hsp
      exact ⟨v, σ', H', J'.ofTry ok, r, q⟩
    | brk =>
      obtain ⟨σ', H', J', q⟩ := hsp
      exact ⟨σ', H', J'.ofTry ok, q⟩
    | cont =>
      obtain ⟨σ', H', J', q⟩ := hsp
      exact ⟨σ', H', J'.ofTry ok, q⟩
end
end Hs
end

/-! HsRules4 -/
section
set_option Elab.async false
set_option linter.all false
set_option maxRecDepth 100000
set_option maxHeartbeats 8000000
/-! own exceptions with one field, over a base whose maker is another's (KeyError's is LookupError's): the library's rules ask for the whole mro, here three looks at it do -/
namespace PySem
namespace F
theorem store_KeyErrorH : StoreFacts "KeyError" [.type "KeyError", .type "LookupError", .type "Exception", .type "BaseException", .type "object"] "object.__setattr__" "object" where
  mro := by kernel_rfl
  slot := .of (owner := "object") (n := "__setattr__") (by rw [typeLookup_type, builtinLookup_eq_fast]; kernel_rfl) (by decide +kernel) (by decide +kernel) (by decide +kernel)
    (by first | exact .inl (by decide +kernel) | exact .inr (by decide +kernel)) (by rw [isSubtype_type]; kernel_rfl)
  entry := entry_object_sa
  kind := by decide +kernel
  split := by decide +kernel
  hasOwner := by decide +kernel
  args := fun a b c => by unfold argsOk; kernel_rfl
  passes := fun self => by kernel_rfl
end F
namespace HsX
open Builtin Builtin.ObjectAttr PySem.W PySem.HandSPX
/-- the three looks -/
structure Mro3 (B : String) (bm : List Value) : Prop where
  b : bm.contains (.type B) = true
  a : bm.contains (.type "AttributeError") = false
  n : bm.contains (.type "NameError") = false
section
variable {prog : Program} {w : World} {M : Model} {A : Around} {E : Value → Shared → Prop} {R : Result → Shared → Prop} {h : Heap} {g : Array GenState} {d : Drawn} {t : Nat} {os : OsState}
variable {nm q : Str} {C N : Addr} {bs bm bmB : List Value} {hdct : Bool} {sn : List Str} {sub : List Value} {ab : Bool} {col : Option Bool} {dd : Option Addr} {k0 k1 k2 k3 k5 : Option Value} {B newId initId : String} {rest : List Value}
theorem check_new3 (F : ExcBaseFacts B newId initId bmB) (m : Mro3 B bm) {Q : Unit → Shared → Prop} (hC : h.get? C = some (excClassObj nm q C N bs bm hdct sn sub ab col dd k0 k1 k2 k3 k5 newId)) (hq : Q () ⟨h, g, d, t, os⟩) :
    wpAny M A (checkBuiltinCall newId ⟨.ref C :: rest, []⟩) Q E ⟨h, g, d, t, os⟩ := by
  have cB : (Value.ref C :: bm).contains (.type B) = true := by rw [List.contains_cons, m.b, Bool.or_true]
  have ns := F.noStar
  simp only [checkBuiltinCall, F.newKind, F.newSplit, F.newRow]
  repeat (first | refine wpAny_loadPart_at hC ?_ | (refine wpAny_isSubtype_exc hC ?_; rw [cB]) | refine wpAny_staticBase_exc hC ?_ | refine wpAny_madeBy_exc hC ?_ | simp only [bne_self_eq_false, Bool.false_eq_true, if_false] | wp_step)
  exact hq
theorem new3 (F : ExcBaseFacts B newId initId bmB) (m : Mro3 B bm) (hC : h.get? C = some (excClassObj nm q C N bs bm hdct sn sub ab col dd k0 k1 k2 k3 k5 newId))
    (hq : R (.ok (.ret (.ref (h.objs.size + 1)))) ⟨(h.push { cls := .type "tuple", data := .seq rest.toArray }).push { cls := .ref C, data := .fields #[.ref h.objs.size, .none, .none, .none, .bool false, .none] }, g, d, t, os⟩) (hrest : rest.length ≤ sizeLine) :
    codeAny (model prog w) A (.builtin newId ⟨.ref C :: rest, []⟩) R ⟨h, g, d, t, os⟩ := by
  have he := F.ends
  have cB : (Value.ref C :: bm).contains (.type B) = true := by rw [List.contains_cons, m.b, Bool.or_true]
  have cA : (Value.ref C :: bm).contains (.type "AttributeError") = false := by rw [List.contains_cons, m.a]; rfl
  have cN : (Value.ref C :: bm).contains (.type "NameError") = false := by rw [List.contains_cons, m.n]; rfl
  refine codeAny_builtinAt F.entry ?_
  unfold Builtin.«BaseException.__new__»
  refine wpAt_bind ?_
  show wpAt _ _ _ (stack >>= _) _ _ _
  refine wpAt_bind (wpAt_stack fun p below => wpAt_of_wpAny ?_)
  wp_walk
  refine wpAt_of_wpAny ?_
  rw [F.owner]
  repeat (first | with_reducible refine wpAny_madeHere_exc F.canon hC ?_ | with_reducible refine wpAny_loadPart_at hC ?_ | (with_reducible refine wpAny_isSubtype_exc hC ?_; first | rw [cB] | rw [cA] | rw [cN]) | wp_step)
  show R _ _
  rw [Heap.size_push]
  exact hq
theorem type_call3 (F : ExcBaseFacts B newId initId bmB) (m : Mro3 B bm) {fI : Addr} {Q : Fin → Shared → Prop} (hC : h.get? C = some (excClassObj nm q C N bs bm hdct sn sub ab col dd k0 k1 k2 k3 k5 newId))
    (hi : Looks (model prog w) h (typeLookup (.ref C) "__init__") (some (.ref fI))) (hb : ∀ self, Looks (model prog w) h (bindSpecial (.ref fI) self) (.ref fI, [self])) (hrest : rest.length ≤ sizeLine)
    (hq : codeAny (model prog w) A (.call (.ref fI) ⟨.ref (h.objs.size + 1) :: rest, []⟩) (fun r s' => match r with | .ok (.ret v) => v = .none ∧ Q (.done (.ret (.ref (h.objs.size + 1)))) s' | .ok _ => False | .error e => E e s')
      ⟨(h.push (kdv_tup rest)).push (excO C h.objs.size), g, d, t, os⟩) : wpAny (model prog w) A (Builtin.«type.__call__» ⟨.ref C :: rest, []⟩) Q E ⟨h, g, d, t, os⟩ := by
  repeat (first | with_reducible refine wpAny_loadPart_at hC ?_ | with_reducible refine wpAny_madeBy_exc hC ?_ | wp_step)
  refine codeAny_call_builtin_code (Code.quiet_builtin _ F.quiet) (check_new3 F m hC (new3 F m hC ?_ hrest))
  show wpAny _ _ _ _ _ _
  have k : ∀ b o, h.get? b = some o → ((h.push (kdv_tup rest)).push (excO C h.objs.size)).get? b = some o := fun b o e => Heap.get?_push_of_some _ (Heap.get?_push_of_some _ e)
  have hC1 := k _ _ hC
  have hx : ((h.push (kdv_tup rest)).push (excO C h.objs.size)).get? (h.objs.size + 1) = some (excO C h.objs.size) := by heap_get
  have cC : (Value.ref C :: bm).contains (.ref C) = true := by simp
  have i1 := hi.keeps k
  have b1 := (hb (.ref (h.objs.size + 1))).keeps k
  unfold isInstance
  repeat (first | with_reducible refine wpAny_loadPart_at hx ?_ | (with_reducible refine wpAny_isSubtype_exc hC1 ?_; rw [cC]) | wp_step)
  show wpAny _ _ (typeLookup (.ref C) _) _ _ _
  refine i1.at (wpAny_holding (wpAny_bind (b1.at (wpAny_bind (wpAny_call (codeAny_mono hq fun r s' z => ?_))))))
  rcases r with e | (v | _ | _ | _) <;> first | exact z | exact z.elim | skip
  obtain ⟨rfl, z⟩ := z
  first
    | exact wpAny_pure (wpAny_pure z)
    | (wp_walk; exact z)
theorem call3 (F : ExcBaseFacts B newId initId bmB) (m : Mro3 B bm) {fI : Addr} (hC : h.get? C = some (excClassObj nm q C N bs bm hdct sn sub ab col dd k0 k1 k2 k3 k5 newId))
    (hi : Looks (model prog w) h (typeLookup (.ref C) "__init__") (some (.ref fI))) (hb : ∀ self, Looks (model prog w) h (bindSpecial (.ref fI) self) (.ref fI, [self])) (hrest : rest.length ≤ sizeLine)
    (hq : codeAny (model prog w) (A.under (.builtin "type.__call__" ⟨.ref C :: rest, []⟩)) (.call (.ref fI) ⟨.ref (h.objs.size + 1) :: rest, []⟩) (InitBack (h.objs.size + 1) R) ⟨(h.push (kdv_tup rest)).push (excO C h.objs.size), g, d, t, os⟩) :
    codeAny (model prog w) A (.call (.ref C) ⟨rest, []⟩) R ⟨h, g, d, t, os⟩ := by
  have f1 := tc_lookup
  have f2 := tc_bind (.ref C)
  have hTy : (⟨h, g, d, t, os⟩ : Shared).TypeIs (.ref C) "type" := ⟨_, hC, rfl⟩
  refine codeAny_of_tree ?_
  show wpAny _ _ (callAny (.ref C) _) _ _ _
  repeat (any_goals (first | assumption | with_reducible refine wpAny_loadPart_at hC ?_ | wp_step))
  refine ⟨rfl, ?_⟩
  refine codeAny_call_builtin_at (Code.quiet_builtin _ (by decide +kernel)) entry_typeCall (wpAny_check_type_call_sub hC (type_call3 F m hC hi hb hrest (codeAny_mono hq fun r s' z => ?_)))
  rcases r with e | (v | _ | _ | _) <;> exact z
/-- the first store into such an exception: its dict is made -/
theorem store3 {K : Frag} {BS : String} {name : Str} {tk : Tok} {v : Value} {x t0 : Addr} {hp : Heap} (SF : StoreFacts BS bmB "object.__setattr__" "object") (X : K.In hp) (hx : hp.get? x = some (excO C t0)) (ho : excOver K C bmB = true) (ht : takerIn K C name = some none) (hh : hasDictIn K C = true)
    (hq : ∀ h' tk' dx, (∀ b o, b ≠ x → hp.get? b = some o → h'.get? b = some o) → hp.objs.size ≤ dx → dx ≠ x → h'.get? x = some { cls := .ref C, dict := some dx, data := .fields #[.ref t0, .none, .none, .none, .bool false, .none] } →
      h'.Ns1 dx (fun y => if y = name then some v else none) → R (.ok (.ret .none)) ⟨h', g, d, tk', os⟩) :
    codeAny (model prog w) A (.call (.builtin "object.__setattr__") ⟨[.ref x, .str name tk, v], []⟩) R ⟨hp, g, d, t, os⟩ := by
  have hxs : x ≠ hp.objs.size := Nat.ne_of_lt (Heap.lt_size hx)
  refine osa_openX (s := ⟨hp, g, d, t, os⟩) (od := none) SF X ⟨hx, rfl, rfl, trivial⟩ ho ht fun b => ?_
  obtain ⟨cd, hc, hd'⟩ := any_some hh
  refine wpAny_bind (wpAny_pure (wpAny_bind (instanceDict_exc (s := ⟨hp, g, d, t, os⟩) (t := t0) (c2 := .none) hx (looks_clsIn X hc) hd' ?_)))
  show wpAny _ _ (storeInDict hp.objs.size (.str name tk) name v) _ _ _
  refine store_in_new ?_ fun h' tk' hn' hs => ?_
  · exact ⟨_, #[], _, (Heap.get?_update_ne _ _ _ _ hxs.symm).trans (Heap.get?_push_at rfl rfl), rfl, fun e he => absurd he (by simp), fun _ => rfl⟩
  · have hx1 : (hp.push (dictOf [] 0)).get? x = some (excO C t0) := Heap.get?_push_of_some _ hx
    refine hq h' tk' hp.objs.size (fun b o hb ho => ?_) (Nat.le_refl _) hxs.symm ?_ hn'
    · exact (hs.2 b (Nat.ne_of_lt (Heap.lt_size ho))).trans ((Heap.get?_update_ne _ _ _ _ hb).trans (Heap.get?_push_of_some _ ho))
    · exact (hs.2 x hxs).trans (Heap.get?_update_self _ hx1 rfl)
end
end HsX
end PySem
namespace Hs
open PySem PySem.Spec PyProof.Rows L2
/-- what the written part says of such a class: tl the built-ins' part of its mro (BS the first of them), made by newId, which is B's -/
structure XcT (K : PySem.W.Frag) (C : Addr) (f : Str) (tl : List Value) (newId : String) : Prop where
  ini : PySem.W.excInitIn K C tl newId = true
  ovr : PySem.W.excOver K C tl = true
  hd : PySem.W.hasDictIn K C = true
  kC : PySem.W.keepIn K (.ref C) = true
  exC : PySem.W.subIn K (.ref C) (.type "BaseException") = some true
  tyC : PySem.W.typeIn K (.ref C) = some (.type "type")
  sa : PySem.W.findIn K (.ref C) "__setattr__" = some (some (.builtin "object.__setattr__"))
  no : PySem.W.findIn K (.ref C) f = some none
  sf : ∃ BS, StoreFacts BS tl "object.__setattr__" "object"
  mkr : ∃ B initId bmB, ExcBaseFacts B newId initId bmB ∧ tl.contains (.type B) = true
  nA : tl.contains (.type "AttributeError") = false
  nN : tl.contains (.type "NameError") = false
section
variable {X : Cx} {pins : List (Addr × Obj)} {σ : L2.St} {H : Hp} {s : Shared} {a C : Addr} {f : Str} {y : V} {u : Value} {tl : List Value} {newId : String} {Q : Unit → Shared → Prop} {E : Value → Shared → Prop} {A : Around}
/-- self.f = y, on an exception that has no dict yet -/
theorem ost_T (T : XcT X.K C f tl newId) (I : Inv X pins σ H s) (e : H a = some (exo a C none)) (ry : RelV y u)
    (h : ∀ dx s', H dx = none → dx ≠ a → Inv X pins σ (upd (upd H dx (exd dx [(f, y)])) a (exo a C (some dx))) s' → Q () s') : wpAny (model X.prog X.w) A (setAttr (.ref a) f u) Q E s := by
  obtain ⟨BS, SF⟩ := T.sf
  obtain ⟨t1, ho⟩ := exo_at I.hok e
  have htk : PySem.W.takerIn X.K C f = some none := by
    unfold PySem.W.takerIn
    rw [T.no]
    rfl
  obtain ⟨hp, g, d, t, os⟩ := s
  refine PySem.W.set_plain I.kIn (ox := HandSPX.excO C t1) (od := none) ⟨ho, rfl, rfl, trivial⟩ T.sa ?_
  refine PySem.HsX.store3 SF I.kIn ho T.ovr htk T.hd (fun h' tk' dx k dn dne hx hn => ?_)
  have hnd : H dx = none := I.hok.fresh dn
  have nd : ∀ {b : Addr} {o : Obj}, hp.get? b = some o → b ≠ dx := fun {b o} q => Nat.ne_of_lt (Nat.lt_of_lt_of_le (Heap.lt_size q) dn)
  have na : ∀ {b : Addr}, H b = none → b ≠ a := fun {b} n z => by
    rw [z, e] at n
    cases n
  -- two places have changed: a and the new dx
  have old : ∀ {b : Addr} {o : HO}, H b = some o → b ≠ a → upd (upd H dx (exd dx [(f, y)])) a (exo a C (some dx)) b = some o := fun {b o} q hb => by
    rw [upd_ne hb, upd_ne (ne_of_none q hnd)]
    exact q
  have un : Un X.fs [] H (upd (upd H dx (exd dx [(f, y)])) a (exo a C (some dx))) hp h' :=
    { keep := fun b o q n _ _ => k b o (na n) q
      slot := fun b o q n _ _ => ⟨o.slots, k b o (na n) q⟩
      free := fun b o q n _ => by rw [upd_ne (na n), upd_ne (nd q)]; exact n
      there := fun b o q _ => by
        by_cases hb : b = a
        · exact ⟨_, by rw [hb]; exact hx⟩
        · exact ⟨o, k b o hb q⟩
      tups := fun b xs q => old q (at_ne e q exo_tup)
      frzs := fun b o v q => old q (at_ne e q exo_frz)
      tbls := fun b ps q => ⟨#[], by rw [old q (at_ne e q exo_tbl)]; simp⟩ }
  refine h dx _ hnd dne (I.un (t' := tk') un fun b o q => ?_)
  by_cases hb : b = a
  · rw [hb, upd_same] at q
    cases q
    rw [hb]
    exact exo_ok hx
  · rw [upd_ne hb] at q
    by_cases hd : b = dx
    · rw [hd, upd_same] at q
      cases q
      rw [hd]
      exact exd_ok hn (relO_put (fs := []) ry fun g => True.intro)
    · rw [upd_ne hd] at q
      refine (I.hok b o q).stay (fun c v hc z => k c v (fun hca => ?_) z) (fun c hc => old hc (at_ne e hc exo_own)) (fun c xs hc => old hc (at_ne e hc exo_tup))
      rcases hc with hc | hc
      · exact hb (hc.symm.trans hca)
      · exact at_ne e hc exo_own hca
end
/-- self.f = e -/
def tOsT (C : Addr) (f : Str) (to te : TE) : TS := fun D σ H => te σ H fun y H1 => to σ H1 fun x H2 => ∃ a : Addr, x = .ref a ∧ H2 a = some (exo a C none) ∧ ∀ dx, H2 dx = none → dx ≠ a → D.nx σ (upd (upd H2 dx (exd dx [(f, y)])) a (exo a C (some dx)))
theorem ps_osT {X : Cx} {o e : Expr} {to te : TE} {f : Str} {p' pos : Pos} {C : Addr} {tl : List Value} {newId : String} (T : XcT X.K C f tl newId) (ho : PE X o to) (he : PE X e te) (hs : swapsWith e (some (.Attribute o f p')) pos.line X.env = pure false := by rfl) :
    PS X (.Assign [.Attribute o f p'] e pos) (tOsT C f to te) := by
  refine ⟨fun pins s σ H D I h => ?_⟩
  refine plainObj_wpAny_Assign_Attribute (thn (he.run pins s σ H _ I h) fun v s1 ⟨y, H1, I1, r1, q1⟩ => thn (ho.run pins s1 σ H1 _ I1 q1) fun u s2 ⟨x, H2, I2, r2, a, ex, ea, q⟩ => ?_) hs
  subst ex
  obtain rfl : u = Value.ref a := r2
  exact ost_T T I2 ea r1 fun dx s' n ne J => ⟨σ, _, J, q dx n ne⟩
/-- __init__ of such a class: self.f = the argument -/
def spXi (C : Addr) (f : Str) : Sp := fun vs H Q _ => ∃ (a : Addr) (y : V), vs = [.ref a, y] ∧ H a = some (exo a C none) ∧ ∀ dx, H dx = none → dx ≠ a → Q .non (upd (upd H dx (exd dx [(f, y)])) a (exo a C (some dx)))
/-- C(e): the error's own dict holds the argument -/
def tMkT (C : Addr) (f : Str) (ta : TA) : L2.St → Hp → XK → Prop := fun σ H Q => ta σ H fun vs H1 => ∃ y, vs = [y] ∧ ∀ d, H1 d = none → Q (.ref C) (some d) (upd H1 d (.xd [(f, y)]))
theorem pmk_T {X : Cx} {C fI : Addr} {f x : Str} {k : Nat} {fd : FuncData} {ps : List Str} {tl : List Value} {newId : String} {e : Expr} {ta : TA} {p pos : Pos} (T : XcT X.K C f tl newId) (iC : PySem.W.findIn X.K (.ref C) "__init__" = some (some (.ref fI))) (tI : PySem.W.isFn X.K (.ref fI) = true)
    (F1 : FnOk X.prog X.w X.K X.mg X.base (L2.CX X.prog X.w) k fI fd ps (spXi C f)) (hr : Room (k + 1) X.A) (hb : Binds X.K fd ps []) (hm : X.mg x = some (.ref C)) (ha : PA X [e] ta) (hg : Gl X x := by rfl)
    (hdb : (x == ("__debug__" : Str)) = false := by decide) (he : starEach [e] X.env = (false, eval e X.env) :: starEach [] X.env := by rfl) (hpl : (backTo pos (starEach [] X.env)).any (·.1) = false := by rfl) :
    PMk X (.Call (.Name x p) [e] [] pos) (tMkT C f ta) := by
  intro pins s σ H Q I h
  obtain ⟨B, initId, bmB, FB, hB⟩ := T.mkr
  obtain ⟨nm, N, q, bs, bm, hdct, sn, sub, ab, col, dd, k0, k1, k2, k3, k5, hC, hbm⟩ := PySem.W.excInit_of I.kIn T.ini
  refine wpAny_Call_Name_kw (ld_glob I hg hm ?_ hdb)
  refine PySem.W.callWith_K (h₀ := X.base) I.ok.mod.kin T.kC (thn (ha.run pos pins s σ H _ I h) fun us s1 ⟨vs, H1, I1, r1, y, ev, q1⟩ => ⟨I1.kIn, ?_⟩) he hpl
  subst ev
  show wpAny _ _ (call (.ref C) us) _ _ _
  obtain ⟨nm, N, q, bs, bm, hdct, sn, sub, ab, col, dd, k0, k1, k2, k3, k5, hC, hbm⟩ := PySem.W.excInit_of I1.kIn T.ini
  obtain ⟨hp, g, dr, tk, os⟩ := s1
  have hsz : hp.objs.size ≤ hp.objs.size + 1 := Nat.le_succ _
  have hn : H1 (hp.objs.size + 1) = none := I1.hok.fresh hsz
  have kk : ∀ b o, hp.get? b = some o → ((hp.push (PySem.W.kdv_tup us)).push (PySem.HandSPX.excO C hp.objs.size)).get? b = some o := fun b o e => Heap.get?_push_of_some _ (Heap.get?_push_of_some _ e)
  have hget : ((hp.push (PySem.W.kdv_tup us)).push (PySem.HandSPX.excO C hp.objs.size)).get? (hp.objs.size + 1) = some (PySem.HandSPX.excO C hp.objs.size) := by heap_get
  have I2 := I1.laid (t' := tk) (a := hp.objs.size + 1) (o := exo (hp.objs.size + 1) C none) kk hsz (exo_ok hget)
  have r2 : Vals [V.ref (hp.objs.size + 1), y] (Value.ref (hp.objs.size + 1) :: us) := .cons rfl r1
  -- behind __init__ the exception is let go, its dict stays
  have hq : spXi C f [V.ref (hp.objs.size + 1), y] (upd H1 (hp.objs.size + 1) (exo (hp.objs.size + 1) C none)) (fun v H2 => v = .non ∧ ∃ d : Addr, H2 (hp.objs.size + 1) = some (exo (hp.objs.size + 1) C (some d)) ∧ H2 d = some (exd d [(f, y)]) ∧ H1 d = none ∧
      Q (.ref C) (some d) (upd (del H2 (hp.objs.size + 1)) d (.xd [(f, y)]))) (fun _ _ _ => False) := by
    refine ⟨_, y, rfl, upd_same, fun dx hdx hne => ⟨rfl, dx, upd_same, by rw [upd_ne hne, upd_same], ?_, ?_⟩⟩
    · rw [upd_ne hne] at hdx
      exact hdx
    · have hd1 : H1 dx = none := by rw [upd_ne hne] at hdx; exact hdx
      have ee : upd (del (upd (upd (upd H1 (hp.objs.size + 1) (exo (hp.objs.size + 1) C none)) dx (exd dx [(f, y)])) (hp.objs.size + 1) (exo (hp.objs.size + 1) C (some dx))) (hp.objs.size + 1)) dx (.xd [(f, y)]) = upd H1 dx (.xd [(f, y)]) := by
        funext b
        by_cases b1 : b = dx
        · rw [b1, upd_same, upd_same]
        · rw [upd_ne b1, upd_ne b1]
          by_cases b2 : b = hp.objs.size + 1
          · rw [b2, del_same, hn]
          · rw [del_ne b2, upd_ne b2, upd_ne b1, upd_ne b2]
      rw [ee]
      exact q1 dx hd1
  have hl : (Value.ref (hp.objs.size + 1) :: us).length = ps.length := by
    rw [← r2.length]
    exact F1.len _ _ _ _ hq
  have hus : us.length ≤ sizeLine := by
    rw [← Paired.length r1]
    exact (by decide : 1 ≤ sizeLine)
  have b := hb _ (Value.ref (hp.objs.size + 1) :: us) I2.kIn (by rw [List.append_nil]; exact hl)
  rw [List.append_nil] at b
  have m3 : PySem.HsX.Mro3 B bm := ⟨(hbm B).trans hB, (hbm _).trans T.nA, (hbm _).trans T.nN⟩
  have tF : PySem.W.typeIn X.K (.ref fI) = some (.type "function") := beq_iff_eq.mp tI
  refine wpAny_call (PySem.HsX.call3 FB m3 hC (PySem.W.looks_findIn I1.kIn iC) (fun self => PySem.W.bind_fn I1.kIn self tF) hus
    (codeAny_mono (F1.run _ X.stack _ _ ⟨Value.ref (hp.objs.size + 1) :: us, []⟩ (Value.ref (hp.objs.size + 1) :: us) _ _ (fun _ _ _ => False) (hr.make C us []) (I2.env0.make C us []) b r2 hq) fun r s' hq' => ?_))
  cases r with
  | error er =>
    obtain ⟨_, _, _, _, _, _, _, _, _, _, _, _, z⟩ := hq'
    exact z.elim
  | ok fl => cases fl with
    | ret u =>
      obtain ⟨v, H2, os2, bare2, un2, hok2, rv, ev, d, ea, ed, hd1, q2⟩ := hq'
      subst ev
      obtain ⟨h2, g2, d2, t2, os'⟩ := s'
      exact ⟨rv, mk_end (raises_own T.exC T.tyC) I1 hsz kk un2 hok2 os2 bare2 ea ed hd1 q2⟩
    | _ => exact False.elim hq'
end Hs
end

/-! HsRules5 -/
section
set_option Elab.async false
set_option linter.all false
set_option maxRecDepth 100000
set_option maxHeartbeats 8000000
/-! del xs[-n:] of a list; len(o) by an own __len__; a text times an int; len(set(texts)) -/
namespace Hs
open PySem PySem.Spec PyProof.Rows L2
/-- the places from a up to n, as list.__delitem__ picks them -/
def selT (a n step : Int) (k : Nat) : Bool :=
  if step > 0 then a ≤ k && k < n && (k - a) % step == 0
  else n < k && k ≤ a && (a - k) % (-step) == 0
theorem cut_tail {α : Type} (a n : Nat) : ∀ (l : List α) (i : Nat), i + l.length ≤ n → ((l.zipIdx i).filterMap fun (x : α × Nat) => if selT (a : Int) (n : Int) 1 x.2 then none else some x.1) = l.take (a - i)
  | [], i, _ => by simp
  | y :: l, i, h => by
    rw [List.length_cons] at h
    have ih := cut_tail a n l (i + 1) (by omega)
    rw [List.zipIdx_cons, List.filterMap_cons]
    by_cases c : a ≤ i
    · have e : selT (a : Int) (n : Int) 1 i = true := by
        unfold selT
        rw [if_pos (by decide)]
        simp only [Bool.and_eq_true, decide_eq_true_eq, beq_iff_eq]
        omega
      have z : a - i = 0 := by omega
      have z1 : a - (i + 1) = 0 := by omega
      simp only [e, if_true]
      rw [ih, z, z1, List.take_zero, List.take_zero]
    · have e : selT (a : Int) (n : Int) 1 i = false := by
        unfold selT
        rw [if_pos (by decide)]
        have : decide ((a : Int) ≤ (i : Int)) = false := decide_eq_false (by omega)
        rw [this, Bool.false_and, Bool.false_and]
      obtain ⟨b, hb⟩ : ∃ b, a - i = b + 1 := ⟨a - i - 1, by omega⟩
      have z1 : a - (i + 1) = b := by omega
      simp only [e, Bool.false_eq_true, if_false]
      rw [ih, hb, z1, List.take_succ_cons]
theorem bounds_tail {k n : Nat} (h1 : 1 ≤ k) (h2 : k ≤ n) : sliceBounds (some (-(k : Int))) none none n = (((n - k : Nat) : Int), (n : Int), 1) := by
  simp only [sliceBounds, Option.getD_none]
  have h : (-(k : Int)) < 0 := by omega
  simp only [h, if_true, show (1 : Int) > 0 by decide]
  congr 1
  omega
section
variable {prog : Program} {w : World} {A : Around} {E : Value → Shared → Prop} {s : Shared}
theorem del_tail {l sl : Addr} {items : List Value} {n k : Nat} {vl : Value} {Q : Unit → Shared → Prop} (e : s.heap.get? l = some { cls := .type "list", data := .seq items.toArray n }) (hs : s.heap.IsSliceOf sl vl .none .none) (pl : IsPart vl (some (-(k : Int))))
    (h1 : 1 ≤ k) (h2 : k ≤ items.length) (hz : items.length ≤ sizeLine) (h : ∀ f : Array Value → Array Value, f items.toArray = (items.take (items.length - k)).toArray → Q () { s with heap := s.heap.update l (Obj.mapSeq f) }) :
    wpAny (model prog w) A (delItem (.ref l) (.ref sl)) Q E s := by
  have hl : s.heap.IsList l items.toArray := PySem.IsL.isList e
  obtain ⟨os, hos, hcs, hds⟩ := id hs
  have hTs : s.TypeIs (.ref sl) "slice" := ⟨os, hos, hcs⟩
  have hstep : ¬ ((rawPart none == rawInt 0) = true) := Bool.false_ne_true
  refine wpAny_delItem_slot hl.typeIs (by decide) F.slot_list_delitem (wpAny_call_entry F.slot_list_delitem hl.typeIs F.entry_list_delitem ?_ (F.args_list_delitem_2 _ _))
  show wpAny _ _ (Builtin.List.listSubscript? (.ref sl) >>= _) _ _ s
  refine wpAny_bind ?_
  unfold Builtin.List.listSubscript?
  refine wpAny_bind (wpAny_specialOf hTs slice_no_index ?_)
  simp only [Option.isNone_none, if_true]
  refine wpAny_pure ?_
  show wpAny _ _ (typeOf (.ref sl) >>= _) _ _ s
  refine wpAny_bind (wpAny_typeOf hTs ?_)
  first
    | rw [if_neg (by decide)]
    | refine PySem.W.KFB.if_not (by decide) ?_
  rw [listSliceParts_eq]
  refine wpAny_bind (wpAny_bind (wpAny_field hos hds (x := .none) rfl (wpAny_bind (wpAny_listPart .none ?_))))
  rw [if_neg hstep]
  refine wpAny_bind (wpAny_field hos hds (x := vl) rfl (wpAny_bind (wpAny_listPart pl ?_)))
  refine wpAny_bind (wpAny_field hos hds (x := .none) rfl (wpAny_bind (wpAny_listPart .none (wpAny_pure ?_))))
  unfold Builtin.List.listItems
  refine wpAny_bind (wpAny_bind (wpAny_seqItems e rfl (wpAny_pure ?_)))
  refine wpAny_bind (wpAny_of_eq ((sliceIndices_raw (some (-(k : Int))) none none items.toArray.size (by simp)).trans (congrArg (pure : Int × Int × Int → Sem (Int × Int × Int)) (bounds_tail h1 (by rw [List.size_toArray]; exact h2)))) ?_)
  have key : (items.toArray.toList.zipIdx.filterMap fun (x : Value × Nat) => if selT ((items.toArray.size - k : Nat) : Int) (items.toArray.size : Int) 1 x.2 then none else some x.1).toArray = (items.take (items.length - k)).toArray := by
    rw [List.size_toArray]
    exact congrArg List.toArray (cut_tail (items.length - k) items.length items 0 (by omega))
  refine wpAny_bind (wpAny_rule ?_)
  show wpAny _ _ (updateSeq l (fun xs => (xs.toList.zipIdx.filterMap fun (x : Value × Nat) => if selT ((items.toArray.size - k : Nat) : Int) (items.toArray.size : Int) 1 x.2 then none else some x.1).toArray) >>= _) _ _ s
  refine wpAny_bind (wpAny_updateSeq (hz := by rw [List.size_toArray]; exact hz) (_hz' := ?_) e rfl ?_)
  · refine wpAny_bind (wpAny_letGo ?_)
    have hq := h (fun xs => (xs.toList.zipIdx.filterMap fun (x : Value × Nat) => if selT ((items.toArray.size - k : Nat) : Int) (items.toArray.size : Int) 1 x.2 then none else some x.1).toArray) key
    first
      | exact wpAny_pure ⟨rfl, hq⟩
      | exact wpAny_pure ⟨_, rfl, hq⟩
      | exact wpAny_bind (wpAny_pure (wpAny_pure ⟨.none, rfl, wpAny_pure hq⟩))
      | exact wpAny_pure ⟨.none, rfl, wpAny_pure hq⟩
      | exact wpAny_pure (wpAny_pure hq)
      | exact wpAny_pure hq
  · show (items.toArray.toList.zipIdx.filterMap fun (x : Value × Nat) => if selT ((items.toArray.size - k : Nat) : Int) (items.toArray.size : Int) 1 x.2 then none else some x.1).toArray.size ≤ _
    rw [key, List.size_toArray, List.length_take]
    omega
end
section
variable {X : Cx} {o lo : Expr} {to tlo : TE} {tpos pos p2 : Pos}
/-- del xs[-n:], 1 ≤ n ≤ len(xs) -/
def tDelT (to ti : TE) : TS := fun D σ H => to σ H fun x H1 => tPart ti σ H1 fun y H2 => ∃ (l : Addr) (xs : List V) (n : Nat), x = .ref l ∧ y = some (-(n : Int)) ∧ H2 l = some (.lst xs) ∧ 1 ≤ n ∧ n ≤ xs.length ∧ D.nx σ (upd H2 l (.lst (xs.take (xs.length - n))))
theorem ps_delTail (ho : PE X o to) (hi : PE X lo tlo) : PS X (.Delete [.Subscript o (.Slice (some lo) none none p2) tpos] pos) (tDelT to tlo) := by
  refine ⟨fun pins s σ H D I h => ?_⟩
  refine wpAny_Delete (wpAny_deleteEach_cons (wpAny_delete_Subscript (thn (ho.run pins s σ H _ I h) fun u s1 ⟨x, H1, I1, rx, q1⟩ => ?_)))
  refine wpAny_Slice (thn ((po_some hi).run pins s1 σ H1 _ I1 q1) fun vl s2 ⟨y, H2, I2, pl, q2⟩ => ?_)
  obtain ⟨l, xs, n, ex, ey, hH, h1, h2, q2⟩ := q2
  subst ex ey
  cases (show u = Value.ref l from rx)
  rw [evalPart_none]
  refine wpAny_pure ?_
  show wpAny _ _ (pure Value.none) _ _ s2
  refine wpAny_pure ?_
  have I4 : L2.Inv X pins σ H2 { s2 with heap := s2.heap.push { cls := .type "slice", data := .fields #[vl, .none, .none] } } := I2.kept (t' := s2.toks) fun b ob q => Heap.get?_push_of_some _ q
  obtain ⟨z, its, m, r, hl, e⟩ := I4.lstM hH
  rw [hl] at h2
  refine del_tail (n := m) (k := n) e (Heap.IsSliceOf.new ..) pl h1 h2 (by omega) fun f hf => ?_
  refine wpAny_deleteEach_nil ⟨σ, _, ?_, q2⟩
  refine I4.lset (its' := its.take (its.length - n)) (t' := s2.toks) hH e hf ?_ ?_
  · rw [hl]; exact r.take _
  · rw [List.length_take]; omega
end
end Hs
end

/-! HsRules6 -/
section
set_option Elab.async false
set_option linter.all false
set_option maxRecDepth 100000
set_option maxHeartbeats 8000000
/-! len(set(texts)), distinct ones; a text times an int; len(o) by an own __len__ -/
namespace Hs
open PySem PySem.Spec PyProof.Rows SS
section
variable {prog : Program} {w : World} {A : Around} {R : Result → Shared → Prop} {I : Addr} {fp wr : List Addr} {G : Array GenState → Array GenState → Prop} {n : Nat} {P : Nat → Value → Prop} {St : Nat → Shared → Prop}
theorem loopStrs (W : WalksS prog w A.in1 I fp wr G n P St) (S : Addr) (hSf : S ∉ fp) (xs : List Str) (hsz : xs.length = n) (hnd : xs.Nodup) (hn1 : n < 64)
    (hval : ∀ i v, P i v → ∃ t, v = .str (xs.getD i Str.empty) t) :
    ∀ (k i : Nat) (s : Shared), n - i = k → i ≤ n → St i s →
      s.heap.SetOf (PySem.strKind prog w) S (fun k' => (xs.take i).any (· == k')) i →
      (∀ s', Moved (S :: wr) G s s' → s'.heap.SetOf (PySem.strKind prog w) S (fun k' => (xs.take n).any (· == k')) n → R (.ok (.ret .none)) s') →
      codeAny (model prog w) A (.builtin "set.update.loop" ⟨[.ref S, .ref I], []⟩) R s := by
  have hSw : S ∉ wr := fun h => hSf (W.sub _ h)
  have hsub : ∀ b ∈ wr, b ∈ S :: wr := fun b hb => List.mem_cons_of_mem _ hb
  intro k
  induction k with
  | zero =>
    intro i s hk hi hst hS hR
    have hin : i = n := by omega
    subst hin
    refine codeAny_builtin PyProof.Rows.F.entry_set_update_loop ?_
    rw [Around.under_plainId PyProof.Rows.F.plain_set_update_loop _]
    show wpAny _ A.in1 (pyNext (.ref I) >>= _) _ _ s
    refine wpAny_bind (W.done s _ _ hst fun s' hm => ?_)
    show wpAny _ A.in1 (ret Value.none) _ _ s'
    exact wpAny_pure (hR s' (hm.mono hsub) (by
      obtain ⟨o, es, ep, t, ho, rest⟩ := hS
      exact ⟨o, es, ep, t, hm.heap S _ hSw ho, rest⟩))
  | succ k ih =>
    intro i s hk hi hst hS hR
    have hlt : i < n := by omega
    refine codeAny_builtin PyProof.Rows.F.entry_set_update_loop ?_
    rw [Around.under_plainId PyProof.Rows.F.plain_set_update_loop _]
    show wpAny _ A.in1 (pyNext (.ref I) >>= _) _ _ s
    refine wpAny_bind (W.item i s _ _ hlt hst fun v s' hP hst' hm => ?_)
    obtain ⟨t, rfl⟩ := hval i v hP
    have hS' : s'.heap.SetOf (PySem.strKind prog w) S (fun k' => (xs.take i).any (· == k')) i := by
      obtain ⟨o, es, ep, tb, ho, rest⟩ := hS
      exact ⟨o, es, ep, tb, hm.heap S _ hSw ho, rest⟩
    show wpAny _ A.in1 (holding [Value.str (xs.getD i Str.empty) t] (setAdd S (.str (xs.getD i Str.empty) t)) >>= _) _ _ s'
    refine wpAny_bind (wpAny_holding ?_)
    unfold setAdd
    refine wpAny_holding ?_
    refine wpAny_bind ((PySem.strKind prog w).pyHash (k := xs.getD i Str.empty) (strKind_is _ _ _ _) ?_)
    refine wpAny_setAddHashed_of (knd := PySem.strKind prog w) (s := { s' with toks := s'.toks + 1 }) (strKind_is _ _ _ _) rfl hS' (by unfold scanBound; omega) fun h' hsb hS2 => ?_
    have hSi : h'.SetOf (PySem.strKind prog w) S (fun k' => (xs.take (i + 1)).any (· == k')) (i + 1) := by
      have hl : i < xs.length := by omega
      have e : xs.getD i Str.empty = xs[i] := by rw [List.getD_eq_getElem?_getD, List.getElem?_eq_getElem hl] <;> rfl
      have no : (xs.take i).any (· == xs[i]) = false := by
        cases h : (xs.take i).any (· == xs[i])
        · rfl
        · obtain ⟨x, hx, e2⟩ := List.any_eq_true.mp h
          obtain ⟨j, hj, e3⟩ := List.getElem_of_mem hx
          rw [List.length_take] at hj
          rw [List.getElem_take] at e3
          exact absurd (e3.trans (beq_iff_eq.mp e2)) (List.pairwise_iff_getElem.mp hnd j i (by omega) hl (by omega))
      refine SetOf_congr hS2 (fun k' => ?_) ?_
      · rw [e, List.take_succ, List.getElem?_eq_getElem hl]
        show ((xs.take i).any (· == k') || decide (k' = xs[i])) = (xs.take i ++ [xs[i]]).any (· == k')
        rw [List.any_append]
        congr 1
        show decide (k' = xs[i]) = ((xs[i] == k') || false)
        rw [Bool.or_false]
        by_cases h : k' = xs[i]
        · rw [decide_eq_true h, ← h]; exact (beq_self_eq_true _).symm
        · rw [decide_eq_false h]; exact (beq_eq_false_iff_ne.mpr fun z => h z.symm).symm
      · rw [e, no]; rfl
    refine wpAny_pure ⟨plainId_quiet PyProof.Rows.F.plain_set_update_loop _, ih (i + 1) _ (by omega) hlt (W.frame _ s' _ _ hst' (Nat.le_succ _) fun b hb o e => ?_) hSi fun s'' hm'' hS'' => ?_⟩
    · rw [hsb.2 b (fun h : b = S => hSf (by rw [← h]; exact hb))]; exact e
    · refine hR s'' (Moved.trans W.gtrans ((hm.mono hsub).then_heap (Nat.le_succ _) fun b o hb e => ?_) hm'') hS''
      rw [hsb.2 b (fun h : b = S => hb (by rw [h]; exact List.mem_cons_self))]; exact e
end

section
variable {prog : Program} {w : World} {A : Around} {E : Value → Shared → Prop} {s : Shared}
set_option maxHeartbeats 3200000 in
theorem call_set_strs {l : Addr} {items : Array Value} {xs : List Str} {Q : Value → Shared → Prop}
    (hh : A.handled = none) (hl : s.heap.IsTuple l items) (hi : PyProof.Rows.StrsAre items.toList xs) (hnd : xs.Nodup) (hn1 : xs.length < 64)
    (h : ∀ (h' : Heap) (tk : Nat), h'.SetOf (PySem.strKind prog w) s.heap.objs.size (fun k' => (xs.take items.size).any (· == k')) items.size →
      (∀ b o, b < s.heap.objs.size → s.heap.get? b = some o → h'.get? b = some o) → Q (.ref s.heap.objs.size) { s with heap := h', toks := tk }) :
    wpAny (model prog w) A (call (.type "set") [.ref l]) Q E s := by
  obtain ⟨c, tl, hmro⟩ := PySem.F.called_set.mro
  have hmade := PySem.F.called_set.made
  have hsub := PySem.F.called_set.sub
  refine wpAny_call (codeAny_of_tree ?_)
  show wpAny _ _ (callAny (.type "set") _) _ _ _
  refine wpAny_pure ⟨Code.quiet_builtin _ (by decide +kernel), codeAny_builtin PySem.F.entry_type_call ?_⟩
  rw [Around.under_plain (weight_type_call_type "set" [.ref l] []) rfl]
  have h1 := PySem.F.called_set.notType
  have h2 := PySem.F.called_set.canCreate
  have hct := PySem.F.typeCall_set_1 (.ref l)
  repeat (any_goals (first | assumption | wp_step))

  refine codeAny_mono (code_set_new_1 (.ref l) (E := E) (Q₁ := fun obj s₁ => ∃ led : Bool, obj = .ref s.heap.objs.size ∧ s₁ = { s with heap := s.heap.push { cls := .type "set", dict := none, data := .set #[] 0 (.fresh 0 0 led) } }) fun led => ⟨led, rfl, rfl⟩) fun r s₁ hr => ?_
  cases r with
  | error e => exact hr
  | ok fl =>
    cases fl with
    | ret obj =>
      obtain ⟨led, rfl, rfl⟩ := hr
      have hS : (s.heap.push { cls := .type "set", dict := none, data := .set #[] 0 (.fresh 0 0 led) }).get? s.heap.objs.size = some { cls := .type "set", dict := none, data := .set #[] 0 (.fresh 0 0 led) } := Heap.get?_push_size _ rfl
      have hT : Shared.TypeIs { s with heap := s.heap.push { cls := .type "set", dict := none, data := .set #[] 0 (.fresh 0 0 led) } } (.ref s.heap.objs.size) "set" := ⟨_, hS, rfl⟩
      have hli := PySem.F.called_set.init.lookup
      have hbi := PySem.F.called_set.init.bind (.ref s.heap.objs.size)
      repeat (any_goals (first | assumption | wp_step))

      refine codeAny_mono (codeAny_call_builtin (R := wants (fun r s₂ => r = .none ∧ ∃ h' tk, s₂ = { s with heap := h', toks := tk } ∧
          h'.SetOf (PySem.strKind prog w) s.heap.objs.size (fun k' => (xs.take items.size).any (· == k')) items.size ∧
          (∀ b o, b < s.heap.objs.size → s.heap.get? b = some o → h'.get? b = some o)) E) PySem.F.called_set.init.plain PySem.F.entry_set_init (check_set_init_1 hT ?_)) fun r₂ s₂ hr₂ => ?_
      · obtain ⟨ol, hol, hcl, nl, hdl⟩ := hl
        obtain ⟨ocls, odict, odata, oslots⟩ := ol
        simp only at hcl hdl
        subst hcl; subst hdl
        have hol' : (s.heap.push { cls := .type "set", dict := none, data := .set #[] 0 (.fresh 0 0 led) }).get? l = some { cls := .type "tuple", dict := odict, data := .seq items nl, slots := oslots } := Heap.get?_push_of_some _ hol
        have hsls := PySem.F.sub_tuple_set
        have hslf := PySem.F.sub_tuple_frozenset
        have hne : (Value.type "tuple" == Value.type "dict") = false := by decide
        have hl1 : (s.heap.push { cls := .type "set", dict := none, data := .set #[] 0 (.fresh 0 0 led) }).IsTuple l items := ⟨_, hol', rfl, nl, rfl⟩
        unfold Builtin.«set.__init__» noKeywords Builtin.Frozenset.updateFrom
        generalize hPI : pyIter = PI
        wp_walk
        subst hPI

        refine wpAny_pyIter_tuple hl1 ?_
        refine wpAny_bind (wpAny_runValue ?_)
        have hlS : l < s.heap.objs.size := Heap.lt_size hol
        have hh3 : A.in1.in1.in1.handled = none := by simp [hh]
        have hneI : l ≠ (s.heap.push { cls := .type "set", dict := none, data := .set #[] 0 (.fresh 0 0 led) }).objs.size := by
          rw [Heap.size_push]; exact Nat.ne_of_lt (Nat.lt_succ_of_lt hlS)
        have hSf : s.heap.objs.size ∉ [(s.heap.push { cls := .type "set", dict := none, data := .set #[] 0 (.fresh 0 0 led) }).objs.size, l] := by
          rw [Heap.size_push]; simp only [List.mem_cons, List.mem_singleton, List.not_mem_nil, or_false, not_or]
          exact ⟨Nat.ne_of_lt (Nat.lt_succ_self _), Nat.ne_of_gt hlS⟩
        have hsz : xs.length = items.size := by rw [← StrsAre.len_eq hi, Array.length_toList]
        have hval : ∀ (i : Nat) (v : Value), items[i]? = some v → ∃ t, v = .str (xs.getD i Str.empty) t := fun i v hv => strs_at hi i v (by rw [Array.getElem?_toList]; exact hv)
        refine loopStrs ((Walks.tuple hh3 _ l hneI items).toS) s.heap.objs.size
          hSf xs hsz hnd (by rw [← hsz]; exact hn1) hval (items.size - 0) 0 _ (by omega) (Nat.zero_le _)
          ⟨⟨_, Heap.get?_push_size _ rfl, rfl, rfl⟩, (hl1.push _)⟩ ?hS0 ?hR
        case hS0 =>
          have hget : ((s.heap.push { cls := .type "set", dict := none, data := .set #[] 0 (.fresh 0 0 led) }).push { cls := .type "tuple_iterator", data := .fields #[.ref l, .int 0 0] }).get? s.heap.objs.size
              = some { cls := .type "set", dict := none, data := .set #[] 0 (.fresh 0 0 led) } := Heap.get?_push_of_some _ hS
          exact PyProof.Rows.SetOf_congr ((PyProof.Rows.setObjOf_fresh (knd := PySem.strKind prog w) led).setOf hget (by unfold scanBound; omega)) (fun _ => rfl) rfl
        case hR =>
          intro s' hm hS'
          obtain ⟨h', g', d', tk', os'⟩ := s'
          have eg : g' = s.gens := hm.gens
          have ed : d' = s.drawn := hm.drawn
          have eo : os' = s.os := hm.os
          subst eg; subst ed; subst eo
          show wpAny _ _ _ _ _ _
          refine wpAny_pure ?_
          show wpAny _ _ (ret Value.none) _ _ _
          refine wpAny_pure ⟨rfl, h', tk', rfl, hS', fun b o hb e => ?_⟩
          have hb1 : b ≠ s.heap.objs.size := Nat.ne_of_lt hb
          have hb2 : b ≠ (s.heap.push { cls := .type "set", dict := none, data := .set #[] 0 (.fresh 0 0 led) }).objs.size := by
            rw [Heap.size_push]; exact Nat.ne_of_lt (Nat.lt_succ_of_lt hb)
          exact hm.heap b o (by simp only [List.mem_cons, List.mem_singleton, List.not_mem_nil, or_false, not_or]; exact ⟨hb1, hb2⟩) (Heap.get?_push_of_some _ (Heap.get?_push_of_some _ e))

      · cases r₂ with
        | error e => exact hr₂
        | ok fl₂ =>
          cases fl₂ with
          | ret r =>
            obtain ⟨rfl, h', tk, rfl, hS', hk'⟩ := hr₂
            repeat (any_goals (first | assumption | wp_step))
            exact h _ _ hS' hk'
          | _ => exact hr₂.elim
    | _ => exact hr.elim

end
section
open L2
variable {X : Cx}
/-- len(set(t)), t a tuple of distinct texts -/
def tLenSetT (K : PySem.W.Frag) (ta : TE) : TE := fun σ H Q => ta σ H fun x H1 => ∃ l, ∃ xs : List Str, x = .ref l ∧ SqT K H1 l (xs.map V.str) ∧ xs.Nodup ∧ xs.length < 64 ∧ Q (.int xs.length) H1
theorem pe_lenSetT {a : Expr} {ta : TE} {p p2 q pos : Pos} (hc : X.calm = true) (hg : Gl X "len") (hm : X.mg "len" = none) (hg2 : Gl X "set") (hm2 : X.mg "set" = none) (ha : PE X a ta)
    (na : starEach [a] X.env = (false, eval a X.env) :: starEach [] X.env := by rfl) : PE X (.Call (.Name "len" p) [.Call (.Name "set" p2) [a] [] q] [] pos) (tLenSetT X.K ta) := by
  refine ⟨fun pins s σ H Q I h => ?_⟩
  refine Call_ (ld_blt I hg hm boot_len ?_)
  refine PyProof.Rows.callWith_builtin1 (PyProof.Rows.args_cons ?_ rfl) rfl rfl
  refine Call_ (ld_blt I hg2 hm2 boot_set ?_)
  refine PyProof.Rows.callWith_type1 (PyProof.Rows.args_cons (thn (ha.run pins s σ H _ I h) fun v s1 ⟨x, H1, I1, r1, q1⟩ => PyProof.Rows.args_nil ?_) na) na rfl
  obtain ⟨l, xs, rfl, hq, hnd, h1, q1⟩ := q1
  cases r1
  obtain ⟨its, r, pl, hz⟩ := I1.tuple hq
  have hl : its.toArray.size = xs.length := by rw [List.size_toArray, ← r.length, List.length_map]
  refine call_set_strs (I1.ok.hd hc) pl (xs := xs) (by simpa using strsAre_of r) hnd h1 fun h' tk hS hk => ?_
  refine PyProof.Rows.args_nil ?_
  rw [hl] at hS
  obtain ⟨o, es, ep, t, ho, hex, hd, _, _, _, hf, hn⟩ := hS
  have I2 : L2.Inv X pins σ H1 { s1 with heap := h', toks := tk } := I1.kept fun b o e => hk b o (Heap.lt_size e) e
  exact call_len_set ho hex hd hf (by rw [hn] <;> omega) ⟨.int xs.length, H1, I2.tok _, ⟨_, by rw [hn]⟩, q1⟩
end
end Hs
end

/-! HsRules7 -/
section
set_option Elab.async false
set_option linter.all false
set_option maxRecDepth 100000
set_option maxHeartbeats 8000000
/-! a text times an int; len(o) by an own __len__ -/
namespace Hs
open PySem PySem.Spec PyProof.Rows SS
section
open L2
variable {X : Cx}
theorem foldl_repA {α : Type} (a : Array α) : ∀ (n : Nat) (acc : Array α), ((List.replicate n a).foldl (· ++ ·) acc).toList = acc.toList ++ (List.replicate n a.toList).flatten
  | 0, acc => by simp
  | n + 1, acc => by rw [List.replicate_succ, List.foldl_cons, foldl_repA a n, List.replicate_succ, List.flatten_cons, Array.toList_append, List.append_assoc]
/-- a text times an int -/
def rMulS : R2 := fun x y H Q => ∃ (z : Str) (n : Nat), x = .str z ∧ y = .int (n : Int) ∧ z.length = 1 ∧ n ≤ 1000 ∧ ∀ r : Str, r.cps.toList = (List.replicate n z.cps.toList).flatten → Q (.str r) H
theorem op_mulS : OpR X (binaryOp .Mult) rMulS := by
  intro pins s σ H x y v u Q I rx ry h
  obtain ⟨z, n, rfl, rfl, hz, hn, q⟩ := h
  obtain ⟨t, rfl⟩ := rx
  obtain ⟨t2, rfl⟩ := ry
  have h1 : (decide ((n : Int) < -(2 ^ 63 : Int)) || decide ((n : Int) ≥ 2 ^ 63)) = false := by
    rw [decide_eq_false (by omega), decide_eq_false (by omega)]; rfl
  refine P.mul_str h1 (fun h0 _ h => ?_) (fun _ _ => ?_) ?_
  · rw [hz] at h
    have : (1 : Int) ≤ (2 ^ 63 - 1) / (n : Int) := (Int.le_ediv_iff_mul_le (by omega)).mpr (by omega)
    omega
  · rw [hz, Int.toNat_natCast, Nat.one_mul]
    exact decide_eq_false (by have hs : sizeLine = 16777216 := sizeLine_eq; omega)
  · by_cases c : (n : Int) < 1
    · have n0 : n = 0 := by omega
      rw [if_pos c]
      exact ⟨by decide, .str Str.empty, H, I.tok _, ⟨_, rfl⟩, q _ (by rw [n0]; rfl)⟩
    · rw [if_neg c]
      by_cases c2 : n = 1
      · subst c2
        rw [if_pos (by rfl)]
        exact ⟨.str z, H, I, ⟨_, rfl⟩, q _ (by simp)⟩
      · rw [if_neg (by rw [hz]; simp; omega)]
        refine ⟨?_, .str _, H, I.tok _, ⟨_, rfl⟩, q _ ?_⟩
        · show (List.foldl (fun x1 x2 => x1 ++ x2) #[] (List.replicate ((n : Int)).toNat z.cps)).size ≤ _
          have hz' : z.cps.toList.length = 1 := hz
          rw [← Array.length_toList, Int.toNat_natCast, foldl_repA, List.length_append, List.length_flatten, List.map_replicate, List.sum_replicate_nat, hz']
          have hs : sizeLine = 16777216 := sizeLine_eq
          show 0 + _ ≤ _
          omega
        · rw [Int.toNat_natCast, foldl_repA]; rfl
end
section
open L2
variable {X : Cx} {CX : CXT} {k : Nat} {f C : Addr} {fd : FuncData} {ps : List Str} {sp : Sp} {E : XK}
/-- len(o), o's class with a __len__ of its own -/
def rLenO (C : Addr) (sp : Sp) (E : XK) : List V → Hp → VK → Prop := fun xs H Q => ∃ (a dx : Addr) (fs : List (Str × V)), xs = [.ref a] ∧ H a = some (.ins C dx fs) ∧ sp [.ref a] H (fun v H' => ∃ n : Nat, v = .int (n : Int) ∧ n ≤ sizeLine ∧ Q v H') E
theorem call_lenO (hf : PySem.W.findIn X.K (.ref C) "__len__" = some (some (.ref f))) (hfn : PySem.W.isFn X.K (.ref f) = true) (F : FnOk X.prog X.w X.K X.mg X.base CX k f fd ps sp) (hr : Room k X.A.in1) (hb : Binds X.K fd ps []) (hx : Passes CX X E) : CallR X (.builtin "len") (rLenO C sp E) := by
  intro pins s σ H xs us Q I r h
  obtain ⟨a, dx, fs, rfl, ha, q⟩ := h
  obtain ⟨u, rfl, ru⟩ := vals1 r
  obtain rfl : u = Value.ref a := ru
  obtain ⟨mA, J, _⟩ := ins_get I.hok ha
  obtain ⟨od, J, _⟩ := J.look
  refine Calls.call_function_entry kind_len plain_len entry_len (args_len1 _) ?_
  unfold Builtin.«len»
  refine wpAny_bind (m := oneArg "len" _) (wpAny_pure ?_)
  have e0 : Env0 X.prog X.w X.K X.mg X.base X.A.in1 X.stack s H := I.env0.in1
  have hl := F.len _ _ _ _ q
  have hc : wpAny (model X.prog X.w) X.A.in1 (call (.ref f) [.ref a]) (fun v s' => ∃ n : Nat, ∃ H' t, v = .int (n : Int) t ∧ n ≤ sizeLine ∧ L2.Inv X pins σ H' s' ∧ Q (.int (n : Int)) H') X.xe s := by
    refine wpAny_call (codeAny_mono (F.run X.A.in1 X.stack s H ⟨[.ref a], []⟩ [.ref a] [.ref a] _ E hr e0 (by
      have := hb s [.ref a] I.kIn (by simpa using hl)
      simpa using this) (.cons rfl .nil) q) fun r s' hq => ?_)
    cases r with
    | error e => exact hx pins σ H s e s' I hq
    | ok fl =>
      cases fl with
      | ret u =>
        obtain ⟨v, H', I', rv, n, rfl, hn, q'⟩ := I.after hq
        obtain ⟨t, rfl⟩ := rv
        exact ⟨n, H', t, rfl, hn, I', q'⟩
      | _ => exact False.elim hq
  refine wpAny_bind (m := callSpecial? (.ref a) (PySem.Str.ofString "__len__")) ?_
  unfold callSpecial? specialOf
  refine wpAny_bind (wpAny_bind (J.type.here ((PySem.W.looks_findIn I.kIn hf).here ?_)))
  refine wpAny_holding ?_
  refine wpAny_bind ((PySem.W.bind_fn I.kIn _ (beq_iff_eq.mp hfn)).here ?_)
  refine wpAny_bind (wpAny_mono hc (fun v s' z => wpAny_pure ?_) fun _ _ z => z)
  obtain ⟨n, H', t, rfl, hn, I', q'⟩ := z
  have hs : sizeLine = 16777216 := sizeLine_eq
  refine wpAny_bind (wpAny_holding (wpAny_pure ?_))
  refine wpAny_bind (wpAny_letGo ?_)
  show wpAny _ _ (if ((n : Nat) : Int) < 0 then _ else _) _ _ _
  rw [if_neg (by omega)]
  show wpAny _ _ (if ((n : Nat) : Int) ≥ 2 ^ 63 then _ else _) _ _ _
  rw [if_neg (by omega)]
  exact wpAny_bind (wpAny_mkInt (wpAny_pure ⟨_, rfl, ⟨.int (n : Int), H', I'.tok _, ⟨_, rfl⟩, q'⟩⟩))
end
end Hs
end

/-! HsTx -/
section
set_option Elab.async false
set_option linter.all false
set_option maxRecDepth 100000
set_option maxHeartbeats 4000000
/-! all facts of the text, by name -/
namespace Hs
open PySem PySem.Spec PyProof.Rows L2
structure Tx (K : PySem.W.Frag) (mg : Str → Option Value) : Prop where
  c : He.SaysD faAll fnAll K
  e : exOk K = true
  h : ∃ h : Heap, K.In h ∧ h.Ns mainGlobals mg
section
variable {K : PySem.W.Frag} {mg : Str → Option Value} (T : Tx K mg)
abbrev BC (K : PySem.W.Frag) : Addr := He.ga K "Band"
abbrev EC (K : PySem.W.Frag) : Addr := He.ga K "Extents"
abbrev WC (K : PySem.W.Frag) : Addr := He.ga K "Walker"
include T
theorem Tx.g_is_integer : mg "is_integer" = some (.ref (He.ga K "is_integer")) := T.h.elim fun _ z => He.glo_ok z.1 z.2 (T.c.fact 0 (f := .glo "is_integer") rfl)
theorem Tx.g_is_count : mg "is_count" = some (.ref (He.ga K "is_count")) := T.h.elim fun _ z => He.glo_ok z.1 z.2 (T.c.fact 1 (f := .glo "is_count") rfl)
theorem Tx.g_is_step : mg "is_step" = some (.ref (He.ga K "is_step")) := T.h.elim fun _ z => He.glo_ok z.1 z.2 (T.c.fact 2 (f := .glo "is_step") rfl)
theorem Tx.g_check_integer : mg "check_integer" = some (.ref (He.ga K "check_integer")) := T.h.elim fun _ z => He.glo_ok z.1 z.2 (T.c.fact 3 (f := .glo "check_integer") rfl)
theorem Tx.g_is_state : mg "is_state" = some (.ref (He.ga K "is_state")) := T.h.elim fun _ z => He.glo_ok z.1 z.2 (T.c.fact 4 (f := .glo "is_state") rfl)
theorem Tx.g_check_state : mg "check_state" = some (.ref (He.ga K "check_state")) := T.h.elim fun _ z => He.glo_ok z.1 z.2 (T.c.fact 5 (f := .glo "check_state") rfl)
theorem Tx.g_apply_to : mg "apply_to" = some (.ref (He.ga K "apply_to")) := T.h.elim fun _ z => He.glo_ok z.1 z.2 (T.c.fact 6 (f := .glo "apply_to") rfl)
theorem Tx.g_difference : mg "difference" = some (.ref (He.ga K "difference")) := T.h.elim fun _ z => He.glo_ok z.1 z.2 (T.c.fact 7 (f := .glo "difference") rfl)
theorem Tx.g_is_run : mg "is_run" = some (.ref (He.ga K "is_run")) := T.h.elim fun _ z => He.glo_ok z.1 z.2 (T.c.fact 8 (f := .glo "is_run") rfl)
theorem Tx.g_check_runs : mg "check_runs" = some (.ref (He.ga K "check_runs")) := T.h.elim fun _ z => He.glo_ok z.1 z.2 (T.c.fact 9 (f := .glo "check_runs") rfl)
theorem Tx.g_append_run : mg "append_run" = some (.ref (He.ga K "append_run")) := T.h.elim fun _ z => He.glo_ok z.1 z.2 (T.c.fact 10 (f := .glo "append_run") rfl)
theorem Tx.g_merge_runs : mg "merge_runs" = some (.ref (He.ga K "merge_runs")) := T.h.elim fun _ z => He.glo_ok z.1 z.2 (T.c.fact 11 (f := .glo "merge_runs") rfl)
theorem Tx.g_total_steps : mg "total_steps" = some (.ref (He.ga K "total_steps")) := T.h.elim fun _ z => He.glo_ok z.1 z.2 (T.c.fact 12 (f := .glo "total_steps") rfl)
theorem Tx.g_run_displacement : mg "run_displacement" = some (.ref (He.ga K "run_displacement")) := T.h.elim fun _ z => He.glo_ok z.1 z.2 (T.c.fact 13 (f := .glo "run_displacement") rfl)
theorem Tx.g_after_runs : mg "after_runs" = some (.ref (He.ga K "after_runs")) := T.h.elim fun _ z => He.glo_ok z.1 z.2 (T.c.fact 14 (f := .glo "after_runs") rfl)
theorem Tx.g_first_steps : mg "first_steps" = some (.ref (He.ga K "first_steps")) := T.h.elim fun _ z => He.glo_ok z.1 z.2 (T.c.fact 15 (f := .glo "first_steps") rfl)
theorem Tx.g_state_after : mg "state_after" = some (.ref (He.ga K "state_after")) := T.h.elim fun _ z => He.glo_ok z.1 z.2 (T.c.fact 16 (f := .glo "state_after") rfl)
theorem Tx.g_to_band : mg "to_band" = some (.ref (He.ga K "to_band")) := T.h.elim fun _ z => He.glo_ok z.1 z.2 (T.c.fact 17 (f := .glo "to_band") rfl)
theorem Tx.g_check_height : mg "check_height" = some (.ref (He.ga K "check_height")) := T.h.elim fun _ z => He.glo_ok z.1 z.2 (T.c.fact 18 (f := .glo "check_height") rfl)
theorem Tx.g_capped : mg "capped" = some (.ref (He.ga K "capped")) := T.h.elim fun _ z => He.glo_ok z.1 z.2 (T.c.fact 19 (f := .glo "capped") rfl)
theorem Tx.g_depth_of : mg "depth_of" = some (.ref (He.ga K "depth_of")) := T.h.elim fun _ z => He.glo_ok z.1 z.2 (T.c.fact 20 (f := .glo "depth_of") rfl)
theorem Tx.g_extents_for : mg "extents_for" = some (.ref (He.ga K "extents_for")) := T.h.elim fun _ z => He.glo_ok z.1 z.2 (T.c.fact 21 (f := .glo "extents_for") rfl)
theorem Tx.g_fewest_pairs : mg "fewest_pairs" = some (.ref (He.ga K "fewest_pairs")) := T.h.elim fun _ z => He.glo_ok z.1 z.2 (T.c.fact 22 (f := .glo "fewest_pairs") rfl)
theorem Tx.g_fewest_steps : mg "fewest_steps" = some (.ref (He.ga K "fewest_steps")) := T.h.elim fun _ z => He.glo_ok z.1 z.2 (T.c.fact 23 (f := .glo "fewest_steps") rfl)
theorem Tx.g_displacement_and_room : mg "displacement_and_room" = some (.ref (He.ga K "displacement_and_room")) := T.h.elim fun _ z => He.glo_ok z.1 z.2 (T.c.fact 24 (f := .glo "displacement_and_room") rfl)
theorem Tx.g_distance_or_none : mg "distance_or_none" = some (.ref (He.ga K "distance_or_none")) := T.h.elim fun _ z => He.glo_ok z.1 z.2 (T.c.fact 25 (f := .glo "distance_or_none") rfl)
theorem Tx.g_distance : mg "distance" = some (.ref (He.ga K "distance")) := T.h.elim fun _ z => He.glo_ok z.1 z.2 (T.c.fact 26 (f := .glo "distance") rfl)
theorem Tx.g_height_outside : mg "height_outside" = some (.ref (He.ga K "height_outside")) := T.h.elim fun _ z => He.glo_ok z.1 z.2 (T.c.fact 27 (f := .glo "height_outside") rfl)
theorem Tx.g_is_name : mg "is_name" = some (.ref (He.ga K "is_name")) := T.h.elim fun _ z => He.glo_ok z.1 z.2 (T.c.fact 28 (f := .glo "is_name") rfl)
theorem Tx.g_are_players : mg "are_players" = some (.ref (He.ga K "are_players")) := T.h.elim fun _ z => He.glo_ok z.1 z.2 (T.c.fact 29 (f := .glo "are_players") rfl)
theorem Tx.g_law_pool : mg "_law_pool" = some (.ref (He.ga K "_law_pool")) := T.h.elim fun _ z => He.glo_ok z.1 z.2 (T.c.fact 30 (f := .glo "_law_pool") rfl)
theorem Tx.g_law_take : mg "_law_take" = some (.ref (He.ga K "_law_take")) := T.h.elim fun _ z => He.glo_ok z.1 z.2 (T.c.fact 31 (f := .glo "_law_take") rfl)
theorem Tx.g_law_integer : mg "_law_integer" = some (.ref (He.ga K "_law_integer")) := T.h.elim fun _ z => He.glo_ok z.1 z.2 (T.c.fact 32 (f := .glo "_law_integer") rfl)
theorem Tx.g_law_ends : mg "_law_ends" = some (.ref (He.ga K "_law_ends")) := T.h.elim fun _ z => He.glo_ok z.1 z.2 (T.c.fact 33 (f := .glo "_law_ends") rfl)
theorem Tx.g_law_inside : mg "_law_inside" = some (.ref (He.ga K "_law_inside")) := T.h.elim fun _ z => He.glo_ok z.1 z.2 (T.c.fact 34 (f := .glo "_law_inside") rfl)
theorem Tx.g_law_world : mg "_law_world" = some (.ref (He.ga K "_law_world")) := T.h.elim fun _ z => He.glo_ok z.1 z.2 (T.c.fact 35 (f := .glo "_law_world") rfl)
theorem Tx.g_law_names : mg "_law_names" = some (.ref (He.ga K "_law_names")) := T.h.elim fun _ z => He.glo_ok z.1 z.2 (T.c.fact 36 (f := .glo "_law_names") rfl)
theorem Tx.g_law_done : mg "_law_done" = some (.ref (He.ga K "_law_done")) := T.h.elim fun _ z => He.glo_ok z.1 z.2 (T.c.fact 37 (f := .glo "_law_done") rfl)
theorem Tx.g_law_act : mg "_law_act" = some (.ref (He.ga K "_law_act")) := T.h.elim fun _ z => He.glo_ok z.1 z.2 (T.c.fact 38 (f := .glo "_law_act") rfl)
theorem Tx.g_law_next : mg "_law_next" = some (.ref (He.ga K "_law_next")) := T.h.elim fun _ z => He.glo_ok z.1 z.2 (T.c.fact 39 (f := .glo "_law_next") rfl)
theorem Tx.g_law_lost : mg "_law_lost" = some (.ref (He.ga K "_law_lost")) := T.h.elim fun _ z => He.glo_ok z.1 z.2 (T.c.fact 40 (f := .glo "_law_lost") rfl)
theorem Tx.g_law_same : mg "_law_same" = some (.ref (He.ga K "_law_same")) := T.h.elim fun _ z => He.glo_ok z.1 z.2 (T.c.fact 41 (f := .glo "_law_same") rfl)
theorem Tx.g_law : mg "law" = some (.ref (He.ga K "law")) := T.h.elim fun _ z => He.glo_ok z.1 z.2 (T.c.fact 42 (f := .glo "law") rfl)
theorem Tx.g_Extents : mg "Extents" = some (.ref (He.ga K "Extents")) := T.h.elim fun _ z => He.glo_ok z.1 z.2 (T.c.fact 43 (f := .glo "Extents") rfl)
theorem Tx.c_Extents : Cls K (He.ga K "Extents") := He.cls_ok (T.c.fact 44 (f := .cls "Extents") rfl)
theorem Tx.k_Extents : Mk K (He.ga K "Extents") (He.ma K (He.ga K "Extents") "__init__") := He.mkr_ok (T.c.fact 45 (f := .mkr "Extents") rfl)
theorem Tx.g_Band : mg "Band" = some (.ref (He.ga K "Band")) := T.h.elim fun _ z => He.glo_ok z.1 z.2 (T.c.fact 46 (f := .glo "Band") rfl)
theorem Tx.c_Band : Cls K (He.ga K "Band") := He.cls_ok (T.c.fact 47 (f := .cls "Band") rfl)
theorem Tx.k_Band : Mk K (He.ga K "Band") (He.ma K (He.ga K "Band") "__init__") := He.mkr_ok (T.c.fact 48 (f := .mkr "Band") rfl)
theorem Tx.g_Walker : mg "Walker" = some (.ref (He.ga K "Walker")) := T.h.elim fun _ z => He.glo_ok z.1 z.2 (T.c.fact 49 (f := .glo "Walker") rfl)
theorem Tx.c_Walker : Cls K (He.ga K "Walker") := He.cls_ok (T.c.fact 50 (f := .cls "Walker") rfl)
theorem Tx.k_Walker : Mk K (He.ga K "Walker") (He.ma K (He.ga K "Walker") "__init__") := He.mkr_ok (T.c.fact 51 (f := .mkr "Walker") rfl)
theorem Tx.m_Band_low : Meth K (He.ga K "Band") "low" (He.ma K (He.ga K "Band") "low") := He.meth_ok (T.c.fact 52 (f := .meth "Band" "low") rfl)
theorem Tx.m_Band_high : Meth K (He.ga K "Band") "high" (He.ma K (He.ga K "Band") "high") := He.meth_ok (T.c.fact 53 (f := .meth "Band" "high") rfl)
theorem Tx.m_Band_includes : Meth K (He.ga K "Band") "includes" (He.ma K (He.ga K "Band") "includes") := He.meth_ok (T.c.fact 54 (f := .meth "Band" "includes") rfl)
theorem Tx.m_Band_room : Meth K (He.ga K "Band") "room" (He.ma K (He.ga K "Band") "room") := He.meth_ok (T.c.fact 55 (f := .meth "Band" "room") rfl)
theorem Tx.m_Extents_extent : Meth K (He.ga K "Extents") "extent" (He.ma K (He.ga K "Extents") "extent") := He.meth_ok (T.c.fact 56 (f := .meth "Extents" "extent") rfl)
theorem Tx.m_Extents_breakpoints : Meth K (He.ga K "Extents") "breakpoints" (He.ma K (He.ga K "Extents") "breakpoints") := He.meth_ok (T.c.fact 57 (f := .meth "Extents" "breakpoints") rfl)
theorem Tx.m_Extents_peaks : Meth K (He.ga K "Extents") "peaks" (He.ma K (He.ga K "Extents") "peaks") := He.meth_ok (T.c.fact 58 (f := .meth "Extents" "peaks") rfl)
theorem Tx.m_Extents_best_split : Meth K (He.ga K "Extents") "best_split" (He.ma K (He.ga K "Extents") "best_split") := He.meth_ok (T.c.fact 59 (f := .meth "Extents" "best_split") rfl)
theorem Tx.m_Extents_greatest : Meth K (He.ga K "Extents") "greatest" (He.ma K (He.ga K "Extents") "greatest") := He.meth_ok (T.c.fact 60 (f := .meth "Extents" "greatest") rfl)
theorem Tx.m_Extents_fewest_pairs : Meth K (He.ga K "Extents") "fewest_pairs" (He.ma K (He.ga K "Extents") "fewest_pairs") := He.meth_ok (T.c.fact 61 (f := .meth "Extents" "fewest_pairs") rfl)
theorem Tx.m_Walker_check_free : Meth K (He.ga K "Walker") "check_free" (He.ma K (He.ga K "Walker") "check_free") := He.meth_ok (T.c.fact 62 (f := .meth "Walker" "check_free") rfl)
theorem Tx.m_Walker_notify : Meth K (He.ga K "Walker") "notify" (He.ma K (He.ga K "Walker") "notify") := He.meth_ok (T.c.fact 63 (f := .meth "Walker" "notify") rfl)
theorem Tx.m_Walker_record : Meth K (He.ga K "Walker") "record" (He.ma K (He.ga K "Walker") "record") := He.meth_ok (T.c.fact 64 (f := .meth "Walker" "record") rfl)
theorem Tx.m_Walker_advance : Meth K (He.ga K "Walker") "advance" (He.ma K (He.ga K "Walker") "advance") := He.meth_ok (T.c.fact 65 (f := .meth "Walker" "advance") rfl)
theorem Tx.m_Walker_change_goal : Meth K (He.ga K "Walker") "change_goal" (He.ma K (He.ga K "Walker") "change_goal") := He.meth_ok (T.c.fact 66 (f := .meth "Walker" "change_goal") rfl)
theorem Tx.m_Walker_undo : Meth K (He.ga K "Walker") "undo" (He.ma K (He.ga K "Walker") "undo") := He.meth_ok (T.c.fact 67 (f := .meth "Walker" "undo") rfl)
theorem Tx.m_Walker_current_state : Meth K (He.ga K "Walker") "current_state" (He.ma K (He.ga K "Walker") "current_state") := He.meth_ok (T.c.fact 68 (f := .meth "Walker" "current_state") rfl)
theorem Tx.m_Walker_current_goal : Meth K (He.ga K "Walker") "current_goal" (He.ma K (He.ga K "Walker") "current_goal") := He.meth_ok (T.c.fact 69 (f := .meth "Walker" "current_goal") rfl)
theorem Tx.m_Walker_budget : Meth K (He.ga K "Walker") "budget" (He.ma K (He.ga K "Walker") "budget") := He.meth_ok (T.c.fact 70 (f := .meth "Walker" "budget") rfl)
theorem Tx.m_Walker_player : Meth K (He.ga K "Walker") "player" (He.ma K (He.ga K "Walker") "player") := He.meth_ok (T.c.fact 71 (f := .meth "Walker" "player") rfl)
theorem Tx.m_Walker_actions : Meth K (He.ga K "Walker") "actions" (He.ma K (He.ga K "Walker") "actions") := He.meth_ok (T.c.fact 72 (f := .meth "Walker" "actions") rfl)
theorem Tx.m_Walker_walked : Meth K (He.ga K "Walker") "walked" (He.ma K (He.ga K "Walker") "walked") := He.meth_ok (T.c.fact 73 (f := .meth "Walker" "walked") rfl)
theorem Tx.m_Walker_is_too_far : Meth K (He.ga K "Walker") "is_too_far" (He.ma K (He.ga K "Walker") "is_too_far") := He.meth_ok (T.c.fact 74 (f := .meth "Walker" "is_too_far") rfl)
theorem Tx.m_Walker_status : Meth K (He.ga K "Walker") "status" (He.ma K (He.ga K "Walker") "status") := He.meth_ok (T.c.fact 75 (f := .meth "Walker" "status") rfl)
theorem Tx.m_Walker_lost_at : Meth K (He.ga K "Walker") "lost_at" (He.ma K (He.ga K "Walker") "lost_at") := He.meth_ok (T.c.fact 76 (f := .meth "Walker" "lost_at") rfl)
theorem Tx.m_Walker_clone : Meth K (He.ga K "Walker") "clone" (He.ma K (He.ga K "Walker") "clone") := He.meth_ok (T.c.fact 77 (f := .meth "Walker" "clone") rfl)
theorem Tx.m_Walker_len : Meth K (He.ga K "Walker") "__len__" (He.ma K (He.ga K "Walker") "__len__") := He.meth_ok (T.c.fact 78 (f := .meth "Walker" "__len__") rfl)
theorem Tx.n_Extents_width : NoAttr K (He.ga K "Extents") "width" := He.noat_ok (T.c.fact 79 (f := .noat "Extents" "width") rfl)
theorem Tx.n_Extents_climb : NoAttr K (He.ga K "Extents") "climb" := He.noat_ok (T.c.fact 80 (f := .noat "Extents" "climb") rfl)
theorem Tx.n_Extents_depth : NoAttr K (He.ga K "Extents") "depth" := He.noat_ok (T.c.fact 81 (f := .noat "Extents" "depth") rfl)
theorem Tx.n_Extents_base : NoAttr K (He.ga K "Extents") "base" := He.noat_ok (T.c.fact 82 (f := .noat "Extents" "base") rfl)
theorem Tx.n_Extents_limit : NoAttr K (He.ga K "Extents") "limit" := He.noat_ok (T.c.fact 83 (f := .noat "Extents" "limit") rfl)
theorem Tx.n_Band_low_end : NoAttr K (He.ga K "Band") "low_end" := He.noat_ok (T.c.fact 84 (f := .noat "Band" "low_end") rfl)
theorem Tx.n_Band_high_end : NoAttr K (He.ga K "Band") "high_end" := He.noat_ok (T.c.fact 85 (f := .noat "Band" "high_end") rfl)
theorem Tx.n_Walker_limits : NoAttr K (He.ga K "Walker") "limits" := He.noat_ok (T.c.fact 86 (f := .noat "Walker" "limits") rfl)
theorem Tx.n_Walker_own_players : NoAttr K (He.ga K "Walker") "own_players" := He.noat_ok (T.c.fact 87 (f := .noat "Walker" "own_players") rfl)
theorem Tx.n_Walker_own_observer : NoAttr K (He.ga K "Walker") "own_observer" := He.noat_ok (T.c.fact 88 (f := .noat "Walker" "own_observer") rfl)
theorem Tx.n_Walker_is_observed : NoAttr K (He.ga K "Walker") "is_observed" := He.noat_ok (T.c.fact 89 (f := .noat "Walker" "is_observed") rfl)
theorem Tx.n_Walker_first_state : NoAttr K (He.ga K "Walker") "first_state" := He.noat_ok (T.c.fact 90 (f := .noat "Walker" "first_state") rfl)
theorem Tx.n_Walker_situation : NoAttr K (He.ga K "Walker") "situation" := He.noat_ok (T.c.fact 91 (f := .noat "Walker" "situation") rfl)
theorem Tx.n_Walker_own_actions : NoAttr K (He.ga K "Walker") "own_actions" := He.noat_ok (T.c.fact 92 (f := .noat "Walker" "own_actions") rfl)
theorem Tx.n_Walker_earlier : NoAttr K (He.ga K "Walker") "earlier" := He.noat_ok (T.c.fact 93 (f := .noat "Walker" "earlier") rfl)
theorem Tx.f_isinstance : mg "isinstance" = none := T.h.elim fun _ z => He.free_ok z.1 z.2 (T.c.fact 94 (f := .free "isinstance") rfl)
theorem Tx.f_int : mg "int" = none := T.h.elim fun _ z => He.free_ok z.1 z.2 (T.c.fact 95 (f := .free "int") rfl)
theorem Tx.f_bool : mg "bool" = none := T.h.elim fun _ z => He.free_ok z.1 z.2 (T.c.fact 96 (f := .free "bool") rfl)
theorem Tx.f_str : mg "str" = none := T.h.elim fun _ z => He.free_ok z.1 z.2 (T.c.fact 97 (f := .free "str") rfl)
theorem Tx.f_tuple : mg "tuple" = none := T.h.elim fun _ z => He.free_ok z.1 z.2 (T.c.fact 98 (f := .free "tuple") rfl)
theorem Tx.f_list : mg "list" = none := T.h.elim fun _ z => He.free_ok z.1 z.2 (T.c.fact 99 (f := .free "list") rfl)
theorem Tx.f_all : mg "all" = none := T.h.elim fun _ z => He.free_ok z.1 z.2 (T.c.fact 100 (f := .free "all") rfl)
theorem Tx.f_len : mg "len" = none := T.h.elim fun _ z => He.free_ok z.1 z.2 (T.c.fact 101 (f := .free "len") rfl)
theorem Tx.f_sum : mg "sum" = none := T.h.elim fun _ z => He.free_ok z.1 z.2 (T.c.fact 102 (f := .free "sum") rfl)
theorem Tx.f_enumerate : mg "enumerate" = none := T.h.elim fun _ z => He.free_ok z.1 z.2 (T.c.fact 103 (f := .free "enumerate") rfl)
theorem Tx.f_min : mg "min" = none := T.h.elim fun _ z => He.free_ok z.1 z.2 (T.c.fact 104 (f := .free "min") rfl)
theorem Tx.f_max : mg "max" = none := T.h.elim fun _ z => He.free_ok z.1 z.2 (T.c.fact 105 (f := .free "max") rfl)
theorem Tx.f_abs : mg "abs" = none := T.h.elim fun _ z => He.free_ok z.1 z.2 (T.c.fact 106 (f := .free "abs") rfl)
theorem Tx.f_range : mg "range" = none := T.h.elim fun _ z => He.free_ok z.1 z.2 (T.c.fact 107 (f := .free "range") rfl)
theorem Tx.f_set : mg "set" = none := T.h.elim fun _ z => He.free_ok z.1 z.2 (T.c.fact 108 (f := .free "set") rfl)
theorem Tx.f_repr : mg "repr" = none := T.h.elim fun _ z => He.free_ok z.1 z.2 (T.c.fact 109 (f := .free "repr") rfl)
theorem Tx.f_sorted : mg "sorted" = none := T.h.elim fun _ z => He.free_ok z.1 z.2 (T.c.fact 110 (f := .free "sorted") rfl)
theorem Tx.s_LOWERCASE : ∃ t, mg "LOWERCASE" = some (.str "abcdefghijklmnopqrstuvwxyz" t) := T.h.elim fun _ z => He.str_ok z.1 z.2 (T.c.fact 111 (f := .str "LOWERCASE" "abcdefghijklmnopqrstuvwxyz") rfl)
theorem Tx.i_MAX_NAME_LENGTH : ∃ t, mg "MAX_NAME_LENGTH" = some (.int 8 t) := T.h.elim fun _ z => He.int_ok z.1 z.2 (T.c.fact 112 (f := .int "MAX_NAME_LENGTH" 8) rfl)
theorem Tx.i_MAX_PLAYERS : ∃ t, mg "MAX_PLAYERS" = some (.int 6 t) := T.h.elim fun _ z => He.int_ok z.1 z.2 (T.c.fact 113 (f := .int "MAX_PLAYERS" 6) rfl)
theorem Tx.g_STEPS : mg "STEPS" = some (.ref (He.ga K "STEPS")) := T.h.elim fun _ z => He.glo_ok z.1 z.2 (T.c.fact 114 (f := .glo "STEPS") rfl)
theorem Tx.n_UnknownName_name : NoAttr K (He.ga K "UnknownName") "name" := He.noat_ok (T.c.fact 115 (f := .noat "UnknownName" "name") rfl)
theorem Tx.n_OutsideBand_height : NoAttr K (He.ga K "OutsideBand") "height" := He.noat_ok (T.c.fact 116 (f := .noat "OutsideBand" "height") rfl)
theorem Tx.n_BudgetExceeded_remaining : NoAttr K (He.ga K "BudgetExceeded") "remaining" := He.noat_ok (T.c.fact 117 (f := .noat "BudgetExceeded" "remaining") rfl)
theorem Tx.g_UnknownName : mg "UnknownName" = some (.ref (He.ga K "UnknownName")) := T.h.elim fun _ z => He.glo_ok z.1 z.2 (T.c.fact 118 (f := .glo "UnknownName") rfl)
theorem Tx.g_OutsideBand : mg "OutsideBand" = some (.ref (He.ga K "OutsideBand")) := T.h.elim fun _ z => He.glo_ok z.1 z.2 (T.c.fact 119 (f := .glo "OutsideBand") rfl)
theorem Tx.g_BudgetExceeded : mg "BudgetExceeded" = some (.ref (He.ga K "BudgetExceeded")) := T.h.elim fun _ z => He.glo_ok z.1 z.2 (T.c.fact 120 (f := .glo "BudgetExceeded") rfl)
theorem Tx.g_NothingToUndo : mg "NothingToUndo" = some (.ref (He.ga K "NothingToUndo")) := T.h.elim fun _ z => He.glo_ok z.1 z.2 (T.c.fact 121 (f := .glo "NothingToUndo") rfl)
theorem Tx.m_UnknownName_init : Meth K (He.ga K "UnknownName") "__init__" (He.ma K (He.ga K "UnknownName") "__init__") := He.meth_ok (T.c.fact 122 (f := .meth "UnknownName" "__init__") rfl)
theorem Tx.m_OutsideBand_init : Meth K (He.ga K "OutsideBand") "__init__" (He.ma K (He.ga K "OutsideBand") "__init__") := He.meth_ok (T.c.fact 123 (f := .meth "OutsideBand" "__init__") rfl)
theorem Tx.m_BudgetExceeded_init : Meth K (He.ga K "BudgetExceeded") "__init__" (He.ma K (He.ga K "BudgetExceeded") "__init__") := He.meth_ok (T.c.fact 124 (f := .meth "BudgetExceeded" "__init__") rfl)
theorem Tx.d_UnknownNameInit : ∃ fd, FunD K "__init__" "UnknownName.__init__" (defArgs sUnknownNameInit) (defBody sUnknownNameInit) (defScope sUnknownNameInit) [] [] (He.ma K (He.ga K "UnknownName") "__init__") fd := T.c.def_ 0 (d := dUnknownNameInit) rfl
theorem Tx.d_OutsideBandInit : ∃ fd, FunD K "__init__" "OutsideBand.__init__" (defArgs sOutsideBandInit) (defBody sOutsideBandInit) (defScope sOutsideBandInit) [] [] (He.ma K (He.ga K "OutsideBand") "__init__") fd := T.c.def_ 1 (d := dOutsideBandInit) rfl
theorem Tx.d_BudgetExceededInit : ∃ fd, FunD K "__init__" "BudgetExceeded.__init__" (defArgs sBudgetExceededInit) (defBody sBudgetExceededInit) (defScope sBudgetExceededInit) [] [] (He.ma K (He.ga K "BudgetExceeded") "__init__") fd := T.c.def_ 2 (d := dBudgetExceededInit) rfl
theorem Tx.d_IsInteger : ∃ fd, FunD K "is_integer" "is_integer" (defArgs sIsInteger) (defBody sIsInteger) (defScope sIsInteger) [] [] (He.ga K "is_integer") fd := T.c.def_ 3 (d := dIsInteger) rfl
theorem Tx.d_IsCount : ∃ fd, FunD K "is_count" "is_count" (defArgs sIsCount) (defBody sIsCount) (defScope sIsCount) [] [] (He.ga K "is_count") fd := T.c.def_ 4 (d := dIsCount) rfl
theorem Tx.d_IsStep : ∃ fd, FunD K "is_step" "is_step" (defArgs sIsStep) (defBody sIsStep) (defScope sIsStep) [] [] (He.ga K "is_step") fd := T.c.def_ 5 (d := dIsStep) rfl
theorem Tx.d_CheckInteger : ∃ fd, FunD K "check_integer" "check_integer" (defArgs sCheckInteger) (defBody sCheckInteger) (defScope sCheckInteger) [.non] [] (He.ga K "check_integer") fd := T.c.def_ 6 (d := dCheckInteger) rfl
theorem Tx.d_IsState : ∃ fd, FunD K "is_state" "is_state" (defArgs sIsState) (defBody sIsState) (defScope sIsState) [] [] (He.ga K "is_state") fd := T.c.def_ 7 (d := dIsState) rfl
theorem Tx.d_CheckState : ∃ fd, FunD K "check_state" "check_state" (defArgs sCheckState) (defBody sCheckState) (defScope sCheckState) [] [] (He.ga K "check_state") fd := T.c.def_ 8 (d := dCheckState) rfl
theorem Tx.d_ApplyTo : ∃ fd, FunD K "apply_to" "apply_to" (defArgs sApplyTo) (defBody sApplyTo) (defScope sApplyTo) [] [] (He.ga K "apply_to") fd := T.c.def_ 9 (d := dApplyTo) rfl
theorem Tx.d_Difference : ∃ fd, FunD K "difference" "difference" (defArgs sDifference) (defBody sDifference) (defScope sDifference) [] [] (He.ga K "difference") fd := T.c.def_ 10 (d := dDifference) rfl
theorem Tx.d_IsRun : ∃ fd, FunD K "is_run" "is_run" (defArgs sIsRun) (defBody sIsRun) (defScope sIsRun) [] [] (He.ga K "is_run") fd := T.c.def_ 11 (d := dIsRun) rfl
theorem Tx.d_CheckRuns : ∃ fd, FunD K "check_runs" "check_runs" (defArgs sCheckRuns) (defBody sCheckRuns) (defScope sCheckRuns) [] [] (He.ga K "check_runs") fd := T.c.def_ 12 (d := dCheckRuns) rfl
theorem Tx.d_AppendRun : ∃ fd, FunD K "append_run" "append_run" (defArgs sAppendRun) (defBody sAppendRun) (defScope sAppendRun) [] [] (He.ga K "append_run") fd := T.c.def_ 13 (d := dAppendRun) rfl
theorem Tx.d_MergeRuns : ∃ fd, FunD K "merge_runs" "merge_runs" (defArgs sMergeRuns) (defBody sMergeRuns) (defScope sMergeRuns) [] [] (He.ga K "merge_runs") fd := T.c.def_ 14 (d := dMergeRuns) rfl
theorem Tx.d_TotalSteps : ∃ fd, FunD K "total_steps" "total_steps" (defArgs sTotalSteps) (defBody sTotalSteps) (defScope sTotalSteps) [] [] (He.ga K "total_steps") fd := T.c.def_ 15 (d := dTotalSteps) rfl
theorem Tx.d_RunDisplacement : ∃ fd, FunD K "run_displacement" "run_displacement" (defArgs sRunDisplacement) (defBody sRunDisplacement) (defScope sRunDisplacement) [] [] (He.ga K "run_displacement") fd := T.c.def_ 16 (d := dRunDisplacement) rfl
theorem Tx.d_AfterRuns : ∃ fd, FunD K "after_runs" "after_runs" (defArgs sAfterRuns) (defBody sAfterRuns) (defScope sAfterRuns) [] [] (He.ga K "after_runs") fd := T.c.def_ 17 (d := dAfterRuns) rfl
theorem Tx.d_FirstSteps : ∃ fd, FunD K "first_steps" "first_steps" (defArgs sFirstSteps) (defBody sFirstSteps) (defScope sFirstSteps) [] [] (He.ga K "first_steps") fd := T.c.def_ 18 (d := dFirstSteps) rfl
theorem Tx.d_StateAfter : ∃ fd, FunD K "state_after" "state_after" (defArgs sStateAfter) (defBody sStateAfter) (defScope sStateAfter) [] [] (He.ga K "state_after") fd := T.c.def_ 19 (d := dStateAfter) rfl
theorem Tx.d_BandInit : ∃ fd, FunD K "__init__" "Band.__init__" (defArgs sBandInit) (defBody sBandInit) (defScope sBandInit) [.non, .non] [] (He.ma K (He.ga K "Band") "__init__") fd := T.c.def_ 20 (d := dBandInit) rfl
theorem Tx.d_BandLow : ∃ fd, FunD K "low" "Band.low" (defArgs sBandLow) (defBody sBandLow) (defScope sBandLow) [] [] (He.ma K (He.ga K "Band") "low") fd := T.c.def_ 21 (d := dBandLow) rfl
theorem Tx.d_BandHigh : ∃ fd, FunD K "high" "Band.high" (defArgs sBandHigh) (defBody sBandHigh) (defScope sBandHigh) [] [] (He.ma K (He.ga K "Band") "high") fd := T.c.def_ 22 (d := dBandHigh) rfl
theorem Tx.d_BandIncludes : ∃ fd, FunD K "includes" "Band.includes" (defArgs sBandIncludes) (defBody sBandIncludes) (defScope sBandIncludes) [] [] (He.ma K (He.ga K "Band") "includes") fd := T.c.def_ 23 (d := dBandIncludes) rfl
theorem Tx.d_BandRoom : ∃ fd, FunD K "room" "Band.room" (defArgs sBandRoom) (defBody sBandRoom) (defScope sBandRoom) [] [] (He.ma K (He.ga K "Band") "room") fd := T.c.def_ 24 (d := dBandRoom) rfl
theorem Tx.d_ToBand : ∃ fd, FunD K "to_band" "to_band" (defArgs sToBand) (defBody sToBand) (defScope sToBand) [] [] (He.ga K "to_band") fd := T.c.def_ 25 (d := dToBand) rfl
theorem Tx.d_CheckHeight : ∃ fd, FunD K "check_height" "check_height" (defArgs sCheckHeight) (defBody sCheckHeight) (defScope sCheckHeight) [] [] (He.ga K "check_height") fd := T.c.def_ 26 (d := dCheckHeight) rfl
theorem Tx.d_Capped : ∃ fd, FunD K "capped" "capped" (defArgs sCapped) (defBody sCapped) (defScope sCapped) [] [] (He.ga K "capped") fd := T.c.def_ 27 (d := dCapped) rfl
theorem Tx.d_DepthOf : ∃ fd, FunD K "depth_of" "depth_of" (defArgs sDepthOf) (defBody sDepthOf) (defScope sDepthOf) [] [] (He.ga K "depth_of") fd := T.c.def_ 28 (d := dDepthOf) rfl
theorem Tx.d_ExtentsInit : ∃ fd, FunD K "__init__" "Extents.__init__" (defArgs sExtentsInit) (defBody sExtentsInit) (defScope sExtentsInit) [] [] (He.ma K (He.ga K "Extents") "__init__") fd := T.c.def_ 29 (d := dExtentsInit) rfl
theorem Tx.d_ExtentsExtent : ∃ fd, FunD K "extent" "Extents.extent" (defArgs sExtentsExtent) (defBody sExtentsExtent) (defScope sExtentsExtent) [] [] (He.ma K (He.ga K "Extents") "extent") fd := T.c.def_ 30 (d := dExtentsExtent) rfl
theorem Tx.d_ExtentsBreakpoints : ∃ fd, FunD K "breakpoints" "Extents.breakpoints" (defArgs sExtentsBreakpoints) (defBody sExtentsBreakpoints) (defScope sExtentsBreakpoints) [] [] (He.ma K (He.ga K "Extents") "breakpoints") fd := T.c.def_ 31 (d := dExtentsBreakpoints) rfl
theorem Tx.d_ExtentsPeaks : ∃ fd, FunD K "peaks" "Extents.peaks" (defArgs sExtentsPeaks) (defBody sExtentsPeaks) (defScope sExtentsPeaks) [] [] (He.ma K (He.ga K "Extents") "peaks") fd := T.c.def_ 32 (d := dExtentsPeaks) rfl
theorem Tx.d_ExtentsBestSplit : ∃ fd, FunD K "best_split" "Extents.best_split" (defArgs sExtentsBestSplit) (defBody sExtentsBestSplit) (defScope sExtentsBestSplit) [] [] (He.ma K (He.ga K "Extents") "best_split") fd := T.c.def_ 33 (d := dExtentsBestSplit) rfl
theorem Tx.d_ExtentsGreatest : ∃ fd, FunD K "greatest" "Extents.greatest" (defArgs sExtentsGreatest) (defBody sExtentsGreatest) (defScope sExtentsGreatest) [] [] (He.ma K (He.ga K "Extents") "greatest") fd := T.c.def_ 34 (d := dExtentsGreatest) rfl
theorem Tx.d_ExtentsFewestPairs : ∃ fd, FunD K "fewest_pairs" "Extents.fewest_pairs" (defArgs sExtentsFewestPairs) (defBody sExtentsFewestPairs) (defScope sExtentsFewestPairs) [] [] (He.ma K (He.ga K "Extents") "fewest_pairs") fd := T.c.def_ 35 (d := dExtentsFewestPairs) rfl
theorem Tx.d_ExtentsFor : ∃ fd, FunD K "extents_for" "extents_for" (defArgs sExtentsFor) (defBody sExtentsFor) (defScope sExtentsFor) [] [] (He.ga K "extents_for") fd := T.c.def_ 36 (d := dExtentsFor) rfl
theorem Tx.d_FewestPairs : ∃ fd, FunD K "fewest_pairs" "fewest_pairs" (defArgs sFewestPairs) (defBody sFewestPairs) (defScope sFewestPairs) [] [] (He.ga K "fewest_pairs") fd := T.c.def_ 37 (d := dFewestPairs) rfl
theorem Tx.d_FewestSteps : ∃ fd, FunD K "fewest_steps" "fewest_steps" (defArgs sFewestSteps) (defBody sFewestSteps) (defScope sFewestSteps) [] [] (He.ga K "fewest_steps") fd := T.c.def_ 38 (d := dFewestSteps) rfl
theorem Tx.d_DisplacementAndRoom : ∃ fd, FunD K "displacement_and_room" "displacement_and_room" (defArgs sDisplacementAndRoom) (defBody sDisplacementAndRoom) (defScope sDisplacementAndRoom) [] [] (He.ga K "displacement_and_room") fd := T.c.def_ 39 (d := dDisplacementAndRoom) rfl
theorem Tx.d_DistanceOrNone : ∃ fd, FunD K "distance_or_none" "distance_or_none" (defArgs sDistanceOrNone) (defBody sDistanceOrNone) (defScope sDistanceOrNone) [] [] (He.ga K "distance_or_none") fd := T.c.def_ 40 (d := dDistanceOrNone) rfl
theorem Tx.d_Distance : ∃ fd, FunD K "distance" "distance" (defArgs sDistance) (defBody sDistance) (defScope sDistance) [] [] (He.ga K "distance") fd := T.c.def_ 41 (d := dDistance) rfl
theorem Tx.d_HeightOutside : ∃ fd, FunD K "height_outside" "height_outside" (defArgs sHeightOutside) (defBody sHeightOutside) (defScope sHeightOutside) [] [] (He.ga K "height_outside") fd := T.c.def_ 42 (d := dHeightOutside) rfl
theorem Tx.d_IsName : ∃ fd, FunD K "is_name" "is_name" (defArgs sIsName) (defBody sIsName) (defScope sIsName) [] [] (He.ga K "is_name") fd := T.c.def_ 43 (d := dIsName) rfl
theorem Tx.d_ArePlayers : ∃ fd, FunD K "are_players" "are_players" (defArgs sArePlayers) (defBody sArePlayers) (defScope sArePlayers) [] [] (He.ga K "are_players") fd := T.c.def_ 44 (d := dArePlayers) rfl
theorem Tx.d_WalkerInit : ∃ fd, FunD K "__init__" "Walker.__init__" (defArgs sWalkerInit) (defBody sWalkerInit) (defScope sWalkerInit) [] [("observer", .non)] (He.ma K (He.ga K "Walker") "__init__") fd := T.c.def_ 45 (d := dWalkerInit) rfl
theorem Tx.d_WalkerCheckFree : ∃ fd, FunD K "check_free" "Walker.check_free" (defArgs sWalkerCheckFree) (defBody sWalkerCheckFree) (defScope sWalkerCheckFree) [] [] (He.ma K (He.ga K "Walker") "check_free") fd := T.c.def_ 46 (d := dWalkerCheckFree) rfl
theorem Tx.d_WalkerNotify : ∃ fd, FunD K "notify" "Walker.notify" (defArgs sWalkerNotify) (defBody sWalkerNotify) (defScope sWalkerNotify) [] [] (He.ma K (He.ga K "Walker") "notify") fd := T.c.def_ 47 (d := dWalkerNotify) rfl
theorem Tx.d_WalkerRecord : ∃ fd, FunD K "record" "Walker.record" (defArgs sWalkerRecord) (defBody sWalkerRecord) (defScope sWalkerRecord) [] [] (He.ma K (He.ga K "Walker") "record") fd := T.c.def_ 48 (d := dWalkerRecord) rfl
theorem Tx.d_WalkerAdvance : ∃ fd, FunD K "advance" "Walker.advance" (defArgs sWalkerAdvance) (defBody sWalkerAdvance) (defScope sWalkerAdvance) [] [] (He.ma K (He.ga K "Walker") "advance") fd := T.c.def_ 49 (d := dWalkerAdvance) rfl
theorem Tx.d_WalkerChangeGoal : ∃ fd, FunD K "change_goal" "Walker.change_goal" (defArgs sWalkerChangeGoal) (defBody sWalkerChangeGoal) (defScope sWalkerChangeGoal) [] [] (He.ma K (He.ga K "Walker") "change_goal") fd := T.c.def_ 50 (d := dWalkerChangeGoal) rfl
theorem Tx.d_WalkerUndo : ∃ fd, FunD K "undo" "Walker.undo" (defArgs sWalkerUndo) (defBody sWalkerUndo) (defScope sWalkerUndo) [] [] (He.ma K (He.ga K "Walker") "undo") fd := T.c.def_ 51 (d := dWalkerUndo) rfl
theorem Tx.d_WalkerCurrentState : ∃ fd, FunD K "current_state" "Walker.current_state" (defArgs sWalkerCurrentState) (defBody sWalkerCurrentState) (defScope sWalkerCurrentState) [] [] (He.ma K (He.ga K "Walker") "current_state") fd := T.c.def_ 52 (d := dWalkerCurrentState) rfl
theorem Tx.d_WalkerCurrentGoal : ∃ fd, FunD K "current_goal" "Walker.current_goal" (defArgs sWalkerCurrentGoal) (defBody sWalkerCurrentGoal) (defScope sWalkerCurrentGoal) [] [] (He.ma K (He.ga K "Walker") "current_goal") fd := T.c.def_ 53 (d := dWalkerCurrentGoal) rfl
theorem Tx.d_WalkerBudget : ∃ fd, FunD K "budget" "Walker.budget" (defArgs sWalkerBudget) (defBody sWalkerBudget) (defScope sWalkerBudget) [] [] (He.ma K (He.ga K "Walker") "budget") fd := T.c.def_ 54 (d := dWalkerBudget) rfl
theorem Tx.d_WalkerPlayer : ∃ fd, FunD K "player" "Walker.player" (defArgs sWalkerPlayer) (defBody sWalkerPlayer) (defScope sWalkerPlayer) [] [] (He.ma K (He.ga K "Walker") "player") fd := T.c.def_ 55 (d := dWalkerPlayer) rfl
theorem Tx.d_WalkerActions : ∃ fd, FunD K "actions" "Walker.actions" (defArgs sWalkerActions) (defBody sWalkerActions) (defScope sWalkerActions) [] [] (He.ma K (He.ga K "Walker") "actions") fd := T.c.def_ 56 (d := dWalkerActions) rfl
theorem Tx.d_WalkerWalked : ∃ fd, FunD K "walked" "Walker.walked" (defArgs sWalkerWalked) (defBody sWalkerWalked) (defScope sWalkerWalked) [] [] (He.ma K (He.ga K "Walker") "walked") fd := T.c.def_ 57 (d := dWalkerWalked) rfl
theorem Tx.d_WalkerIsTooFar : ∃ fd, FunD K "is_too_far" "Walker.is_too_far" (defArgs sWalkerIsTooFar) (defBody sWalkerIsTooFar) (defScope sWalkerIsTooFar) [] [] (He.ma K (He.ga K "Walker") "is_too_far") fd := T.c.def_ 58 (d := dWalkerIsTooFar) rfl
theorem Tx.d_WalkerStatus : ∃ fd, FunD K "status" "Walker.status" (defArgs sWalkerStatus) (defBody sWalkerStatus) (defScope sWalkerStatus) [] [] (He.ma K (He.ga K "Walker") "status") fd := T.c.def_ 59 (d := dWalkerStatus) rfl
theorem Tx.d_WalkerLostAt : ∃ fd, FunD K "lost_at" "Walker.lost_at" (defArgs sWalkerLostAt) (defBody sWalkerLostAt) (defScope sWalkerLostAt) [] [] (He.ma K (He.ga K "Walker") "lost_at") fd := T.c.def_ 60 (d := dWalkerLostAt) rfl
theorem Tx.d_WalkerClone : ∃ fd, FunD K "clone" "Walker.clone" (defArgs sWalkerClone) (defBody sWalkerClone) (defScope sWalkerClone) [] [] (He.ma K (He.ga K "Walker") "clone") fd := T.c.def_ 61 (d := dWalkerClone) rfl
theorem Tx.d_WalkerLen : ∃ fd, FunD K "__len__" "Walker.__len__" (defArgs sWalkerLen) (defBody sWalkerLen) (defScope sWalkerLen) [] [] (He.ma K (He.ga K "Walker") "__len__") fd := T.c.def_ 62 (d := dWalkerLen) rfl
theorem Tx.d_LawPool : ∃ fd, FunD K "_law_pool" "_law_pool" (defArgs sLawPool) (defBody sLawPool) (defScope sLawPool) [] [] (He.ga K "_law_pool") fd := T.c.def_ 63 (d := dLawPool) rfl
theorem Tx.d_LawTake : ∃ fd, FunD K "_law_take" "_law_take" (defArgs sLawTake) (defBody sLawTake) (defScope sLawTake) [] [] (He.ga K "_law_take") fd := T.c.def_ 64 (d := dLawTake) rfl
theorem Tx.d_LawInteger : ∃ fd, FunD K "_law_integer" "_law_integer" (defArgs sLawInteger) (defBody sLawInteger) (defScope sLawInteger) [] [] (He.ga K "_law_integer") fd := T.c.def_ 65 (d := dLawInteger) rfl
theorem Tx.d_LawEnds : ∃ fd, FunD K "_law_ends" "_law_ends" (defArgs sLawEnds) (defBody sLawEnds) (defScope sLawEnds) [] [] (He.ga K "_law_ends") fd := T.c.def_ 66 (d := dLawEnds) rfl
theorem Tx.d_LawInside : ∃ fd, FunD K "_law_inside" "_law_inside" (defArgs sLawInside) (defBody sLawInside) (defScope sLawInside) [] [] (He.ga K "_law_inside") fd := T.c.def_ 67 (d := dLawInside) rfl
theorem Tx.d_LawWorld : ∃ fd, FunD K "_law_world" "_law_world" (defArgs sLawWorld) (defBody sLawWorld) (defScope sLawWorld) [] [] (He.ga K "_law_world") fd := T.c.def_ 68 (d := dLawWorld) rfl
theorem Tx.d_LawNames : ∃ fd, FunD K "_law_names" "_law_names" (defArgs sLawNames) (defBody sLawNames) (defScope sLawNames) [] [] (He.ga K "_law_names") fd := T.c.def_ 69 (d := dLawNames) rfl
theorem Tx.d_LawDone : ∃ fd, FunD K "_law_done" "_law_done" (defArgs sLawDone) (defBody sLawDone) (defScope sLawDone) [] [] (He.ga K "_law_done") fd := T.c.def_ 70 (d := dLawDone) rfl
theorem Tx.d_LawAct : ∃ fd, FunD K "_law_act" "_law_act" (defArgs sLawAct) (defBody sLawAct) (defScope sLawAct) [] [] (He.ga K "_law_act") fd := T.c.def_ 71 (d := dLawAct) rfl
theorem Tx.d_LawNext : ∃ fd, FunD K "_law_next" "_law_next" (defArgs sLawNext) (defBody sLawNext) (defScope sLawNext) [] [] (He.ga K "_law_next") fd := T.c.def_ 72 (d := dLawNext) rfl
theorem Tx.d_LawLost : ∃ fd, FunD K "_law_lost" "_law_lost" (defArgs sLawLost) (defBody sLawLost) (defScope sLawLost) [] [] (He.ga K "_law_lost") fd := T.c.def_ 73 (d := dLawLost) rfl
theorem Tx.d_LawSame : ∃ fd, FunD K "_law_same" "_law_same" (defArgs sLawSame) (defBody sLawSame) (defScope sLawSame) [] [] (He.ga K "_law_same") fd := T.c.def_ 74 (d := dLawSame) rfl
theorem Tx.d_Law : ∃ fd, FunD K "law" "law" (defArgs sLaw) (defBody sLaw) (defScope sLaw) [] [] (He.ga K "law") fd := T.c.def_ 75 (d := dLaw) rfl
end
end Hs
end

/-! HsData -/
section
set_option Elab.async false
set_option linter.all false
set_option maxRecDepth 100000
set_option maxHeartbeats 4000000
/-! the data that the program walks over: states, runs; heaps that keep what they track -/
namespace Hs
open PySem PySem.Spec PyProof.Rows L2
/-! ### heaps -/
/-- all but what stands at l is kept -/
def SameX (l : Addr) (H H' : Hp) : Prop := ∀ b o, b ≠ l → H b = some o → H' b = some o
theorem SameX.of {l : Addr} {H H' : Hp} (s : Same H H') : SameX l H H' := fun b o _ h => s b o h
theorem SameX.trans {l : Addr} {H H1 H2 : Hp} (a : SameX l H H1) (b : SameX l H1 H2) : SameX l H H2 := fun c o n h => b c o n (a c o n h)
theorem SameX.upd {l : Addr} {H : Hp} {o : HO} : SameX l H (upd H l o) := fun b u n h => by rw [upd_ne n]; exact h
theorem same_upd {H : Hp} {p : Addr} {o : HO} (h : H p = none) : Same H (upd H p o) := fun b u e => by
  have n : b ≠ p := fun z => by rw [z, h] at e; cases e
  rw [upd_ne n]; exact e
theorem same_upd2 {H H1 : Hp} {p : Addr} {o : HO} (s : Same H H1) (h : H1 p = none) : Same H (upd H1 p o) := s.trans (same_upd h)
/-- a new object is changed: what was tracked before it is kept -/
theorem same_at {H H1 : Hp} {p : Addr} {o : HO} (hp : H p = none) (s : Same H H1) : Same H (upd H1 p o) := fun b u e => by
  have n : b ≠ p := fun z => by rw [z, hp] at e; cases e
  rw [upd_ne n]; exact s b u e
theorem same_atX {l : Addr} {H H1 : Hp} {p : Addr} {o : HO} (hp : H p = none) (s : SameX l H H1) : SameX l H (upd H1 p o) := fun b u nb e => by
  have n : b ≠ p := fun z => by rw [z, hp] at e; cases e
  rw [upd_ne n]; exact s b u nb e
theorem sameOfX {l : Addr} {H H' : Hp} (hl : H l = none) (s : SameX l H H') : Same H H' := fun b o e => s b o (fun z => by rw [z, hl] at e; cases e) e
theorem ne_none {H : Hp} {a p : Addr} {o : HO} (h : H a = some o) (hp : H p = none) : a ≠ p := fun z => by rw [z, hp] at h; cases h
theorem at0 {α : Type} {a : α} {l : List α} : atI (a :: l) 0 = some a := atI_nat (j := 0) rfl
theorem at1 {α : Type} {a b : α} {l : List α} : atI (a :: b :: l) 1 = some b := atI_nat (j := 1) rfl
theorem at2 {α : Type} {a b c : α} {l : List α} : atI (a :: b :: c :: l) 2 = some c := atI_nat (j := 2) rfl
theorem at3 {α : Type} {a b c d : α} {l : List α} : atI (a :: b :: c :: d :: l) 3 = some d := atI_nat (j := 3) rfl
section
variable {α : Type} {a b c d e : α}
theorem l0 : ([] : List α).length ≤ sizeLine := by show 0 ≤ sizeLine; decide
theorem l1 : [a].length ≤ sizeLine := by show 1 ≤ sizeLine; decide
theorem l2 : [a, b].length ≤ sizeLine := by show 2 ≤ sizeLine; decide
theorem l3 : [a, b, c].length ≤ sizeLine := by show 3 ≤ sizeLine; decide
theorem l4 : [a, b, c, d].length ≤ sizeLine := by show 4 ≤ sizeLine; decide
theorem l5 : [a, b, c, d, e].length ≤ sizeLine := by show 5 ≤ sizeLine; decide
end
/-- for i, x in enumerate(xs): the pair is a new tuple each time -/
theorem for_enum {K : PySem.W.Frag} {a : Addr} {xs : List V} {g : TG} {tb : TS} {D : Ends} {σ : L2.St} {H : Hp} (Pv : Nat → L2.St → Hp → Prop) (h0 : Pv 0 σ H) (hl : ∀ i σ H, i ≤ xs.length → Pv i σ H → SqL K H a xs)
    (hs : ∀ i x σ H T, xs[i]? = some x → Pv i σ H → H T = none → g (.ref T) σ (upd H T (.tup [.int (i : Nat), x])) fun σ2 H2 => tb { D with nx := Pv (i + 1), ct := Pv (i + 1), bk := D.nx } σ2 H2) (hd : ∀ σ H, Pv xs.length σ H → D.nx σ H) :
    ∃ W : Nat → Nat → L2.St → Hp → Prop, (∃ m, W 0 m σ H) ∧ ∀ i m σ H, W i m σ H →
      ((Ite K a).stop i H ∧ D.nx σ H) ∨ ((Ite K a).go i H ∧ ∃ N : L2.St → Hp → Prop, (∀ σ' H', N σ' H' → ∃ m', m' < m ∧ W (i + 1) m' σ' H') ∧ ∀ x H', (Ite K a).yld i H x H' → g x σ H' fun σ2 H2 => tb { D with nx := N, ct := N, bk := D.nx } σ2 H2) := by
  refine ⟨fun i m σ H => m = xs.length - i ∧ i ≤ xs.length ∧ Pv i σ H, ⟨xs.length, by simp, Nat.zero_le _, h0⟩, ?_⟩
  rintro i m σ H ⟨rfl, hi, p⟩
  have q := hl i σ H hi p
  by_cases hlt : i < xs.length
  · refine .inr ⟨⟨xs, xs[i], q, by simp [hlt]⟩, Pv (i + 1), fun σ' H' p' => ⟨xs.length - (i + 1), by omega, rfl, hlt, p'⟩, fun x H' y => ?_⟩
    obtain ⟨T, x, rfl, hT, rfl, hx⟩ := y
    exact hs i x σ H T (hx xs q) p hT
  · have e : i = xs.length := by omega
    subst e
    exact .inl ⟨⟨xs, q, Nat.le_refl _⟩, hd σ H p⟩
theorem last_get {α : Type} (us : List α) (x : α) : (us ++ [x])[(us ++ [x]).length - 1]? = some x := by simp
/-- two lists, item by item -/
inductive All2 {α β : Type} (R : α → β → Prop) : List α → List β → Prop
  | nil : All2 R [] []
  | cons {x : α} {y : β} {xs : List α} {ys : List β} : R x y → All2 R xs ys → All2 R (x :: xs) (y :: ys)
namespace All2
variable {α β : Type} {R S : α → β → Prop} {xs : List α} {ys : List β}
theorem len : ∀ {xs : List α} {ys : List β}, All2 R xs ys → xs.length = ys.length
  | _, _, .nil => rfl
  | _, _, .cons _ t => congrArg Nat.succ t.len
theorem imp (f : ∀ x y, R x y → S x y) : ∀ {xs : List α} {ys : List β}, All2 R xs ys → All2 S xs ys
  | _, _, .nil => .nil
  | _, _, .cons h t => .cons (f _ _ h) (t.imp f)
theorem app : ∀ {xs : List α} {ys : List β} {us : List α} {vs : List β}, All2 R xs ys → All2 R us vs → All2 R (xs ++ us) (ys ++ vs)
  | _, _, _, _, .nil, h => h
  | _, _, _, _, .cons h t, h2 => .cons h (t.app h2)
theorem one {x : α} {y : β} (h : R x y) : All2 R [x] [y] := .cons h .nil
theorem at_ : ∀ {xs : List α} {ys : List β}, All2 R xs ys → ∀ {i : Nat} {x : α}, xs[i]? = some x → ∃ y, ys[i]? = some y ∧ R x y
  | _, _, .nil, i, x, h => by simp at h
  | _, _, .cons (y := y) h t, 0, x, e => by simp at e; subst e; exact ⟨y, rfl, h⟩
  | _, _, .cons h t, i + 1, x, e => by simp at e; obtain ⟨y, h1, h2⟩ := t.at_ e; exact ⟨y, by simpa using h1, h2⟩
theorem at2 : ∀ {xs : List α} {ys : List β}, All2 R xs ys → ∀ {i : Nat} {y : β}, ys[i]? = some y → ∃ x, xs[i]? = some x ∧ R x y
  | _, _, .nil, i, x, h => by simp at h
  | _, _, .cons (x := y) h t, 0, x, e => by simp at e; subst e; exact ⟨y, rfl, h⟩
  | _, _, .cons h t, i + 1, x, e => by simp at e; obtain ⟨y, h1, h2⟩ := t.at2 e; exact ⟨y, by simpa using h1, h2⟩
theorem take : ∀ {xs : List α} {ys : List β} (n : Nat), All2 R xs ys → All2 R (xs.take n) (ys.take n)
  | _, _, 0, _ => by simp only [List.take_zero]; exact .nil
  | _, _, _ + 1, .nil => .nil
  | _, _, n + 1, .cons h t => .cons h (t.take n)
theorem drop : ∀ {xs : List α} {ys : List β} (n : Nat), All2 R xs ys → All2 R (xs.drop n) (ys.drop n)
  | _, _, 0, h => h
  | _, _, _ + 1, .nil => .nil
  | _, _, n + 1, .cons h t => t.drop n
theorem dropLast (h : All2 R xs ys) : All2 R xs.dropLast ys.dropLast := by
  rw [List.dropLast_eq_take, List.dropLast_eq_take, h.len]
  exact h.take _
/-- the last item -/
theorem snoc_inv {xs : List α} {ys : List β} {y : β} (h : All2 R xs (ys ++ [y])) : ∃ us x, xs = us ++ [x] ∧ All2 R us ys ∧ R x y := by
  have hl := h.len
  rw [List.length_append, List.length_singleton] at hl
  obtain ⟨x, hx, hr⟩ := h.at2 (i := ys.length) (y := y) (by simp)
  refine ⟨xs.take ys.length, x, ?_, ?_, hr⟩
  · have e := List.take_append_drop ys.length xs
    have d : xs.drop ys.length = [x] := by
      have hlt : ys.length < xs.length := by omega
      rw [List.drop_eq_getElem_cons hlt]
      have e2 : xs[ys.length] = x := by rw [List.getElem?_eq_getElem hlt] at hx; exact Option.some.inj hx
      rw [e2, List.drop_of_length_le (by omega)]
    rw [d] at e
    exact e.symm
  · have t := h.take ys.length
    rw [List.take_left' rfl] at t
    exact t
end All2
/-! ### states -/
structure P3 where
  x : Int
  h : Int
  s : Int
  deriving DecidableEq
def IsP (H : Hp) (v : V) (p : P3) : Prop := ∃ a, v = .ref a ∧ H a = some (.tup [.int p.x, .int p.h, .int p.s])
theorem IsP.mono {H H' : Hp} {v : V} {p : P3} (h : IsP H v p) (s : Same H H') : IsP H' v p := let ⟨a, e, q⟩ := h; ⟨a, e, s _ _ q⟩
theorem IsP.monoX {H H' : Hp} {v : V} {p : P3} {l : Addr} {o : HO} (h : IsP H v p) (s : SameX l H H') (hl : H l = some o) (ho : ∀ xs, o ≠ .tup xs) : IsP H' v p :=
  let ⟨a, e, q⟩ := h; ⟨a, e, s _ _ (fun z => by rw [z, hl] at q; cases q; exact ho _ rfl) q⟩
theorem IsP.new {H : Hp} {p : P3} {a : Addr} : IsP (upd H a (.tup [.int p.x, .int p.h, .int p.s])) (.ref a) p := ⟨a, rfl, upd_same⟩
/-! ### steps and runs -/
inductive Dir where
  | E | W | U | D
  deriving DecidableEq
def Dir.t : Dir → Str
  | .E => "E"
  | .W => "W"
  | .U => "U"
  | .D => "D"
theorem Dir.t_inj {a b : Dir} (h : a.t = b.t) : a = b := by
  revert h
  cases a <;> cases b <;> intro h <;> first | rfl | exact absurd h (by decide +kernel)
abbrev Run := Dir × Int
def IsRun (H : Hp) (v : V) (r : Run) : Prop := ∃ a, v = .ref a ∧ H a = some (.tup [.str r.1.t, .int r.2])
theorem IsRun.mono {H H' : Hp} {v : V} {r : Run} (h : IsRun H v r) (s : Same H H') : IsRun H' v r := let ⟨a, e, q⟩ := h; ⟨a, e, s _ _ q⟩
theorem IsRun.monoX {H H' : Hp} {v : V} {r : Run} {l : Addr} {xs : List V} (h : IsRun H v r) (s : SameX l H H') (hl : H l = some (.lst xs)) : IsRun H' v r :=
  let ⟨a, e, q⟩ := h; ⟨a, e, s _ _ (fun z => by rw [z, hl] at q; cases q) q⟩
/-- the list at l holds the runs rs -/
def IsRuns (H : Hp) (l : Addr) (rs : List Run) : Prop := ∃ xs, H l = some (.lst xs) ∧ All2 (IsRun H) xs rs
theorem IsRuns.mono {H H' : Hp} {l : Addr} {rs : List Run} (h : IsRuns H l rs) (s : Same H H') : IsRuns H' l rs := let ⟨xs, e, q⟩ := h; ⟨xs, s _ _ e, q.imp fun _ _ r => r.mono s⟩
/-- a list of runs that another list's change leaves -/
theorem IsRuns.monoX {H H' : Hp} {l k : Addr} {xs : List V} {rs : List Run} (h : IsRuns H l rs) (s : SameX k H H') (hk : H k = some (.lst xs)) (n : l ≠ k) : IsRuns H' l rs :=
  let ⟨ys, e, q⟩ := h; ⟨ys, s _ _ n e, q.imp fun _ _ r => r.monoX s hk⟩
/-- append_run -/
def appRun (rs : List Run) (d : Dir) (n : Int) : List Run :=
  if 0 < n then
    match rs.getLast? with
    | some (d', m) => if d' = d then rs.dropLast ++ [(d, n + m)] else rs ++ [(d, n)]
    | none => [(d, n)]
  else rs
def mergeR : List Run → List Run → List Run
  | acc, [] => acc
  | acc, (d, n) :: r => mergeR (appRun acc d n) r
def firstR : List Run → List Run → Int → List Run
  | acc, [], _ => acc
  | acc, (d, n) :: r, k => firstR (appRun acc d (imin n k)) r (k - imin n k)
def moveR (p : P3) (d : Dir) (n : Int) : P3 := match d with
  | .E => ⟨p.x + n, p.h + 0, p.s + 0 + p.h * n⟩
  | .W => ⟨p.x + -n, p.h + 0, p.s + 0 + p.h * -n⟩
  | .U => ⟨p.x + 0, p.h + n, p.s + 0 + p.h * 0⟩
  | .D => ⟨p.x + 0, p.h + -n, p.s + 0 + p.h * 0⟩
def afterR (p : P3) (rs : List Run) : P3 := rs.foldl (fun p r => moveR p r.1 r.2) p
def totR (rs : List Run) : Int := (rs.map (·.2)).sum
def riseR (d : Dir) (n : Int) : P3 := match d with
  | .E => ⟨n, 0, 0⟩
  | .W => ⟨-n, 0, 0⟩
  | .U => ⟨0, n, 0⟩
  | .D => ⟨0, -n, 0⟩
theorem moveR_eq (p : P3) (d : Dir) (n : Int) : moveR p d n = ⟨p.x + (riseR d n).x, p.h + (riseR d n).h, p.s + (riseR d n).s + p.h * (riseR d n).x⟩ := by cases d <;> rfl
theorem appRun_pos {rs : List Run} {d : Dir} {n : Int} (h : ∀ r ∈ rs, 0 < r.2) : ∀ r ∈ appRun rs d n, 0 < r.2 := by
  unfold appRun
  split
  · rename_i hn
    split
    · rename_i d' m hm
      have hmem : (d', m) ∈ rs := List.mem_of_getLast? hm
      split
      · intro r hr
        rcases List.mem_append.mp hr with q | q
        · exact h r (List.dropLast_subset _ q)
        · rw [List.mem_singleton] at q; subst q; have := h _ hmem; show 0 < n + m; have : 0 < m := this; omega
      · intro r hr
        rcases List.mem_append.mp hr with q | q
        · exact h r q
        · rw [List.mem_singleton] at q; subst q; exact hn
    · intro r hr
      rw [List.mem_singleton] at hr; subst hr; exact hn
  · exact h
theorem appRun_len (rs : List Run) (d : Dir) (n : Int) : (appRun rs d n).length ≤ rs.length + 1 := by
  unfold appRun
  split
  · split
    · split <;> simp
    · simp
  · omega
/-! ### runs as data -/
def dRun (r : Run) : PyData := .tuple [.str r.1.t, .int r.2]
def dRuns (rs : List Run) : PyData := .list (rs.map dRun)
theorem IsRun.dp {K : PySem.W.Frag} {H : Hp} {v : V} {r : Run} (h : IsRun H v r) : Dp K H v (dRun r) := by
  obtain ⟨a, rfl, q⟩ := h
  exact .tup (SqT.of q) (.cons (.str _) (.cons (.int _) .nil))
theorem runs_dpAll {K : PySem.W.Frag} {H : Hp} : ∀ {xs : List V} {rs : List Run}, All2 (IsRun H) xs rs → DpAll K H xs (rs.map dRun)
  | _, _, .nil => .nil
  | _, _, .cons h t => .cons h.dp (runs_dpAll t)
theorem IsRuns.dp {K : PySem.W.Frag} {H : Hp} {l : Addr} {rs : List Run} (h : IsRuns H l rs) : Dp K H (.ref l) (dRuns rs) := let ⟨_, e, q⟩ := h; .lst (SqL.of e) (runs_dpAll q)
theorem dir_ok (d : Dir) : PyData.strOk d.t = true := by cases d <;> decide +kernel
theorem runs_can : ∀ (rs : List Run), PyData.canLayAll0 (rs.map dRun) = true
  | [] => by simp [PyData.canLayAll0]
  | r :: rs => by
    have := runs_can rs
    simp only [List.map_cons, PyData.canLayAll0, this, dRun, PyData.canLay0, dir_ok, Bool.and_true, Bool.true_and]
theorem runs_depth : ∀ (rs : List Run), PyData.depthAll (rs.map dRun) ≤ 1
  | [] => by simp [PyData.depthAll]
  | r :: rs => by
    have := runs_depth rs
    simp only [List.map_cons, PyData.depthAll, dRun, PyData.depth]
    omega
theorem runs_shaped (rs : List Run) : SeqAt.shaped (dRuns rs) = true := by
  unfold SeqAt.shaped dRuns
  rw [Bool.and_eq_true]
  refine ⟨?_, decide_eq_true ?_⟩
  · simp only [PyData.canLay0]; exact runs_can rs
  · have := runs_depth rs
    simp only [PyData.depth]; omega
theorem nil_dp {K : PySem.W.Frag} {H : Hp} {l : Addr} (h : H l = some (.lst [])) : Dp K H (.ref l) (.list []) := .lst (SqL.of h) .nil
theorem nil_shaped : SeqAt.shaped (.list []) = true := runs_shaped []
theorem eqv_nil (rs : List Run) : PyData.eqv (dRuns rs) (.list []) = decide (rs = []) := by
  cases rs with
  | nil => simp [dRuns, PyData.eqv, PyData.eqvAll]
  | cons r rs => simp [dRuns, PyData.eqv, PyData.eqvAll]
/-! ### bands: the ends -/
structure Bnd where
  lo : Option Int
  hi : Option Int
  deriving DecidableEq
def vO : Option Int → V
  | none => .non
  | some i => .int i
/-- includes -/
def Bnd.has (b : Bnd) (h : Int) : Bool := (match b.lo with | none => true | some l => decide (l ≤ h)) && (match b.hi with | none => true | some k => decide (h ≤ k))
def IsB (K : PySem.W.Frag) (H : Hp) (v : V) (b : Bnd) : Prop := ∃ a dx, v = .ref a ∧ H a = some (.ins (BC K) dx [("low_end", vO b.lo), ("high_end", vO b.hi)])
theorem IsB.mono {K : PySem.W.Frag} {H H' : Hp} {v : V} {b : Bnd} (h : IsB K H v b) (s : Same H H') : IsB K H' v b := let ⟨a, dx, e, q⟩ := h; ⟨a, dx, e, s _ _ q⟩
def below (b : Bnd) (h : Int) : Option Int := b.lo.map fun l => h - l
def above (b : Bnd) (h : Int) : Option Int := b.hi.map fun k => k - h
section
variable {X : Cx}
def ipW : TIp := fun x y H Q => ∃ i j, x = .int i ∧ y = .int j ∧ CMulW i j ∧ Q (.int (i * j)) H
theorem ip_mul : PIp X .Mult ipW := by
  intro pins s σ H x y v u Q I r1 r2 h
  obtain ⟨i, j, e1, e2, c, q⟩ := h
  subst e1; subst e2
  obtain ⟨t, rfl⟩ := r1
  obtain ⟨t', rfl⟩ := r2
  exact imul_int ⟨.int _, H, I.tok _, ⟨_, rfl⟩, q⟩ c.ok
end
end Hs
end

/-! HsExc -/
section
set_option Elab.async false
set_option linter.all false
set_option maxRecDepth 100000
set_option maxHeartbeats 4000000
/-! the own exceptions, as the rules want them -/
namespace Hs
open PySem PySem.Spec PyProof.Rows L2
section
variable {K : PySem.W.Frag} {mg : Str → Option Value}
theorem xc_of {x f : Str} {tl : List Value} {id : String} (h : excFacts K x tl id = true) (no : NoAttr K (He.ga K x) f) (sf : ∃ BS, StoreFacts BS tl "object.__setattr__" "object") (mkr : ∃ B initId bmB, ExcBaseFacts B id initId bmB ∧ tl.contains (.type B) = true)
    (nA : tl.contains (.type "AttributeError") = false) (nN : tl.contains (.type "NameError") = false) : XcT K (He.ga K x) f tl id := by
  unfold excFacts at h
  simp only [Bool.and_eq_true, decide_eq_true_eq] at h
  obtain ⟨h1, h2, h3, h4, h5, h6, h7, h8⟩ := h
  exact ⟨h1, h2, h3, h4, h5, h6, h7, no, sf, mkr, nA, nN⟩
theorem ex_unp (T : Tx K mg) : excFacts K "UnknownName" tlKey "LookupError.__new__" = true ∧ excFacts K "OutsideBand" tlIndex "IndexError.__new__" = true ∧ excFacts K "BudgetExceeded" tlRun "RuntimeError.__new__" = true ∧ excPlain K "NothingToUndo" tlLook "LookupError.__new__" = true ∧
    (∀ x ∈ excNames, ∀ y ∈ excNames, PySem.W.exmOne K (.ref (He.ga K x)) (.ref (He.ga K y)) = some (decide (x = y))) ∧ PySem.W.kitOne K (.ref (He.ga K "Band")) (.ref (He.ga K "Band")) = some true ∧ PySem.W.findIn K (.ref (He.ga K "Band")) "__class__" = some (some (.builtin "object.__class__")) ∧
    PySem.W.specialIn K (.builtin "object.__class__") "__get__" = some (some (.builtin "getset_descriptor.__get__")) ∧ PySem.W.takesIn K (.builtin "object.__class__") = some true ∧ PySem.W.mroIn K (He.ga K "Band") (.type "object") = some true ∧
    PySem.W.findIn K (.ref (He.ga K "Walker")) "__len__" = some (some (.ref (He.ma K (He.ga K "Walker") "__len__"))) := by
  have e := T.e
  unfold exOk at e
  simp only [Bool.and_eq_true, decide_eq_true_eq] at e
  obtain ⟨e1, e2, e3, e4, e5, e6, e7, e8, e9, e10, e11, e12⟩ := e
  refine ⟨e1, e2, e3, e4, fun x hx y hy => ?_, e7, e8, e9, e10, e11, e12⟩
  have a := List.all_eq_true.mp e5 x hx
  have b := List.all_eq_true.mp a y hy
  exact of_decide_eq_true b
theorem x_UnknownName (T : Tx K mg) : XcT K (He.ga K "UnknownName") "name" tlKey "LookupError.__new__" :=
  xc_of (ex_unp T).1 T.n_UnknownName_name ⟨"KeyError", F.store_KeyErrorH⟩ ⟨"LookupError", _, _, F.excBase_LookupError, rfl⟩ rfl rfl
theorem x_OutsideBand (T : Tx K mg) : XcT K (He.ga K "OutsideBand") "height" tlIndex "IndexError.__new__" :=
  xc_of (ex_unp T).2.1 T.n_OutsideBand_height ⟨"IndexError", F.store_IndexError⟩ ⟨"IndexError", _, _, F.excBase_IndexError, rfl⟩ rfl rfl
theorem x_BudgetExceeded (T : Tx K mg) : XcT K (He.ga K "BudgetExceeded") "remaining" tlRun "RuntimeError.__new__" :=
  xc_of (ex_unp T).2.2.1 T.n_BudgetExceeded_remaining ⟨"RuntimeError", F.store_RuntimeError⟩ ⟨"RuntimeError", _, _, F.excBase_RuntimeError, rfl⟩ rfl rfl
end
end Hs
end

/-! HsRules8 -/
section
set_option Elab.async false
set_option linter.all false
set_option maxRecDepth 100000
set_option maxHeartbeats 4000000
/-! o.f as one of several targets -/
namespace Hs
open PySem PySem.Spec PyProof.Rows L2
section
variable {X : Cx} {o : Expr} {ta : TE} {f : Str} {pos : Pos}
def gFld (K : PySem.W.Frag) (ta : TE) (f : Str) : TG := fun v σ H Q => ta σ H fun x H2 => ∃ a C dx fs, x = .ref a ∧ H2 a = some (.ins C dx fs) ∧ Cls K C ∧ NoAttr K C f ∧ fs.length < 1000 ∧ Q σ (upd H2 a (.ins C dx (putF f v fs)))
theorem pg_fld (ha : PE X o ta) : PG X (.Attribute o f pos) (gFld X.K ta f) := by
  refine ⟨fun pins s σ H v u Q I r h => ?_⟩
  refine PySem.W.kas_attr (thn (ha.run pins s σ H _ I h) fun ov s2 ⟨x, H2, I2, rx, a, C, dx, fs, ex, ea, c, n, l, q2⟩ => ?_)
  subst ex
  obtain rfl : ov = Value.ref a := rx
  exact setattr_ok I2 ea c n l r fun s3 I3 => ⟨σ, _, I3, q2⟩
end
end Hs
end

/-! HsExt -/
section
set_option Elab.async false
set_option linter.all false
set_option maxRecDepth 100000
set_option maxHeartbeats 4000000
set_option exponentiation.threshold 2000
/-! Extents: the data, the bounds of its products -/
namespace Hs
open PySem PySem.Spec PyProof.Rows L2
def dep : Option Int → Option Int → Option Int
  | some a, some c => some (a + c)
  | _, _ => none
def exOf (X Y S : Int) (a c : Option Int) : Ext :=
  if decide (0 ≤ S) = decide (0 ≤ X) then ⟨iabs X, iabs Y, dep a c, imax Y 0, c⟩ else ⟨iabs X, iabs Y, dep a c, imax (-Y) 0, a⟩
structure Ext.Sm (e : Ext) : Prop where
  w : e.width < 2 ^ 400
  c : e.climb < 2 ^ 400
  b : e.base < 2 ^ 400
theorem natAbs_lt {x : Int} {n : Nat} (h0 : 0 ≤ x) (h : x < 2 ^ n) : x.natAbs < 2 ^ n := by
  have e : ((2 ^ n : Nat) : Int) = 2 ^ n := by simp
  omega
theorem pw400 : (2 : Int) ^ 400 ≤ 2 ^ 800 := by decide
theorem pw801 : (2 : Int) ^ 800 + 2 ^ 800 = 2 ^ 801 := by decide
theorem cap_lt {n : Int} {l : Option Int} {k : Nat} (h0 : 0 ≤ n) (h : n < 2 ^ k) (hl : ∀ m, l = some m → 0 ≤ m) : (cap n l).natAbs < 2 ^ k :=
  natAbs_lt (cap_nn h0 hl) (Int.lt_of_le_of_lt (cap_le n l) h)
theorem ext_mul {e : Ext} (o : e.Ok) (s : e.Sm) {j v : Int} (h0 : 0 ≤ v) (hv : v ≤ j) (hj : j < 2 ^ 800) :
    CMulW e.width (cap (e.base + v) e.limit) ∧ CMulW (j - v) (cap (e.climb + v) e.depth) := by
  have p := pw400
  have q := pw801
  have b0 := o.b0
  have c0 := o.c0
  have hb := s.b
  have hc := s.c
  generalize e1 : (2 : Int) ^ 800 = B at *
  have c1 : cap (e.base + v) e.limit = cap (e.base + v) e.limit := rfl
  constructor
  · refine wide_mul (a := 400) (b := 801) (natAbs_lt o.w0 s.w) (cap_lt (by omega) (by rw [← q]; omega) fun m hm => ?_) (by decide) (by decide) (by decide)
    have := o.bl m hm
    omega
  · refine wide_mul (a := 800) (b := 801) (natAbs_lt (by omega) (by rw [e1]; omega)) (cap_lt (by omega) (by rw [← q]; omega) fun m hm => ?_) (by decide) (by decide) (by decide)
    have := o.cd m hm
    omega
/-- a well made one -/
theorem exOf_ok {X Y S : Int} {a c : Option Int} (ha : ∀ k, a = some k → 0 ≤ k ∧ -Y ≤ k) (hc : ∀ k, c = some k → 0 ≤ k ∧ Y ≤ k) : (exOf X Y S a c).Ok := by
  have w0 := (le_iabs X).2
  have c0 := (le_iabs Y).2
  have cy : iabs Y = if Y < 0 then -Y else Y := rfl
  have m1 := imax_def Y 0
  have m2 := imax_def (-Y) 0
  have cd : ∀ n, dep a c = some n → iabs Y ≤ n := fun n hn => by
    cases a with
    | none => cases hn
    | some a =>
      cases c with
      | none => cases hn
      | some c =>
        cases hn
        have h1 := ha a rfl
        have h2 := hc c rfl
        rw [cy]; split <;> omega
  unfold exOf
  split
  · refine ⟨w0, c0, ?_, fun k hk => ?_, cd, fun n hn => ?_⟩
    · show 0 ≤ imax Y 0
      rw [m1]; split <;> omega
    · have := hc k hk
      show imax Y 0 ≤ k
      rw [m1]; split <;> omega
    · show ∃ k, c = some k ∧ k - imax Y 0 ≤ n - iabs Y
      have hn' : dep a c = some n := hn
      cases a with
      | none => cases hn'
      | some a =>
        cases c with
        | none => cases hn'
        | some c =>
          cases hn'
          have h1 := ha a rfl
          have h2 := hc c rfl
          refine ⟨c, rfl, ?_⟩
          rw [m1, cy]; split <;> split <;> omega
  · refine ⟨w0, c0, ?_, fun k hk => ?_, cd, fun n hn => ?_⟩
    · show 0 ≤ imax (-Y) 0
      rw [m2]; split <;> omega
    · have := ha k hk
      show imax (-Y) 0 ≤ k
      rw [m2]; split <;> omega
    · show ∃ k, a = some k ∧ k - imax (-Y) 0 ≤ n - iabs Y
      have hn' : dep a c = some n := hn
      cases a with
      | none => cases hn'
      | some a =>
        cases c with
        | none => cases hn'
        | some c =>
          cases hn'
          have h1 := ha a rfl
          have h2 := hc c rfl
          refine ⟨a, rfl, ?_⟩
          rw [m2, cy]; split <;> split <;> omega
theorem exOf_sm {X Y S : Int} {a c : Option Int} (hX : iabs X < 2 ^ 400) (hY : iabs Y < 2 ^ 400) : (exOf X Y S a c).Sm := by
  have cy : iabs Y = if Y < 0 then -Y else Y := rfl
  have m1 := imax_def Y 0
  have m2 := imax_def (-Y) 0
  have p : (0 : Int) < 2 ^ 400 := by decide
  unfold exOf
  split
  · refine ⟨hX, hY, ?_⟩
    show imax Y 0 < _
    generalize (2 : Int) ^ 400 = B at *
    rw [m1]; rw [cy] at hY; split <;> split at hY <;> omega
  · refine ⟨hX, hY, ?_⟩
    show imax (-Y) 0 < _
    generalize (2 : Int) ^ 400 = B at *
    rw [m2]; rw [cy] at hY; split <;> split at hY <;> omega
theorem exOf_depth {X Y S : Int} {a c : Option Int} : (exOf X Y S a c).depth = dep a c := by unfold exOf; split <;> rfl
def eFs (e : Ext) : List (Str × V) := [("width", .int e.width), ("climb", .int e.climb), ("depth", vO e.depth), ("base", .int e.base), ("limit", vO e.limit)]
end Hs
end

/-! HsD1 -/
section
set_option Elab.async false
set_option linter.all false
set_option maxRecDepth 100000
set_option maxHeartbeats 4000000
namespace Hs
open PySem PySem.Spec PyProof.Rows L2
local macro_rules | `(tactic| walk_at "rd") => `(tactic| repeat (first | refine ⟨_, rfl, ?_⟩ | refine ⟨_, _, rfl, rfl, ?_⟩))
local macro_rules | `(tactic| walk_at "b") => `(tactic| first | (exact fun _ _ _ _ _ _ us hl => match us, hl with | [_], _ => rfl) | (exact fun _ _ _ _ _ _ us hl => match us, hl with | [_, _], _ => rfl) | (exact fun _ _ _ _ _ _ us hl => match us, hl with | [_, _, _], _ => rfl) | (exact fun _ _ _ _ _ _ us hl => match us, hl with | [_, _, _, _], _ => rfl))
section
variable {P : Program} {w : World} {K : PySem.W.Frag} {mg : Str → Option Value} {base : Heap} (T : Tx K mg)
/-! ### is_integer, is_count, is_step, check_integer -/
def spIsInt : Sp := fun vs H Q _ => ∃ i : Int, vs = [.int i] ∧ Q (.bl true) H
theorem scIsInteger : FnScope ["value"] ["value"] (defScope sIsInteger) := ⟨rfl, rfl, rfl, by decide +kernel, rfl, by decide +kernel, by decide +kernel⟩
theorem kb_ii : kitB "int" "int" = some true := by decide +kernel
theorem kb_ib : kitB "int" "bool" = some false := by decide +kernel
theorem kb_ss : kitB "str" "str" = some true := by decide +kernel
theorem kb_tt : kitB "tuple" "tuple" = some true := by decide +kernel
theorem kb_ll : kitB "list" "list" = some true := by decide +kernel
include T in
theorem ok_is_integer : Cal P w K mg base 1 "is_integer" spIsInt [] := by
  obtain ⟨fd, F⟩ := T.d_IsInteger
  refine ⟨_, fd, ["value"], [], F.ok scIsInteger (fun vs H Q E h => ?_) (fun cdv A outer s H vs Q E hr h => ⟨_, PSs.nox (pss_one (ps_ret (pe_and (pe_callB call_isi rfl T.f_isinstance boot_isinstance (pa_cons (pv 0) (pa_cons (pe_bltn (v := .ty "int") rfl T.f_int boot_int rfl) pa_nil))) (pe_one (pe_not (pe_callB call_isi rfl T.f_isinstance boot_isinstance (pa_cons (pv 0) (pa_cons (pe_bltn (v := .ty "bool") rfl T.f_bool boot_bool rfl) pa_nil)))))))), ?_⟩),
    T.g_is_integer, F.kp, F.bindsN (by walk_at "b"), .nil⟩
  · obtain ⟨i, rfl, _⟩ := h; rfl
  · obtain ⟨i, rfl, h⟩ := h
    walk_at "rd"
    refine ⟨_, _, _, _, _, rfl, .ty "int", .base (.int i), kit_ty kb_ii, ?_⟩
    walk_at "rd"
    refine ⟨_, _, _, _, _, rfl, .ty "bool", .base (.int i), kit_ty kb_ib, ?_⟩
    walk_at "rd"
    exact h
def spIsCnt : Sp := fun vs H Q _ => ∃ i : Int, vs = [.int i] ∧ Q (.bl (decide (0 ≤ i))) H
theorem scIsCount : FnScope ["value"] ["value"] (defScope sIsCount) := ⟨rfl, rfl, rfl, by decide +kernel, rfl, by decide +kernel, by decide +kernel⟩
include T in
theorem ok_is_count : Cal P w K mg base 2 "is_count" spIsCnt [] := by
  obtain ⟨fd, F⟩ := T.d_IsCount
  refine ⟨_, fd, ["value"], [], F.ok scIsCount (fun vs H Q E h => ?_) (fun cdv A outer s H vs Q E hr h => ⟨_, PSs.nox (pss_one (ps_ret (pe_and (pe_c (ok_is_integer T) hr (by decide) (pa_cons (pv 0) pa_nil)) (pe_one (pe_cmp (pc_ge (pv 0) pe_int)))))), ?_⟩),
    T.g_is_count, F.kp, F.bindsN (by walk_at "b"), .nil⟩
  · obtain ⟨i, rfl, _⟩ := h; rfl
  · obtain ⟨i, rfl, h⟩ := h
    walk_at "rd"
    exact h
def spIsStep : Sp := fun vs H Q _ => ∃ d : Dir, vs = [.str d.t] ∧ Q (.bl true) H
theorem scIsStep : FnScope ["value"] ["value"] (defScope sIsStep) := ⟨rfl, rfl, rfl, by decide +kernel, rfl, by decide +kernel, by decide +kernel⟩
theorem steps_at (T : Tx K mg) (H : Hp) : SqT K H (He.ga K "STEPS") [.str "E", .str "W", .str "U", .str "D"] := by
  have e := T.e
  unfold exOk at e
  simp only [Bool.and_eq_true] at e
  exact He.tupB_ok e.2.2.2.2.2.1 H
include T in
theorem ok_is_step : Cal P w K mg base 1 "is_step" spIsStep [] := by
  obtain ⟨fd, F⟩ := T.d_IsStep
  refine ⟨_, fd, ["value"], [], F.ok scIsStep (fun vs H Q E h => ?_) (fun cdv A outer s H vs Q E hr h => ⟨_, PSs.nox (pss_one (ps_ret (pe_and (pe_callB call_isi rfl T.f_isinstance boot_isinstance (pa_cons (pv 0) (pa_cons (pe_bltn (v := .ty "str") rfl T.f_str boot_str rfl) pa_nil))) (pe_one (pe_cmpR op_in_seq (pv 0) (pe_glob (v := .ref (He.ga K "STEPS")) rfl T.g_STEPS rfl) rfl))))), ?_⟩),
    T.g_is_step, F.kp, F.bindsN (by walk_at "b"), .nil⟩
  · obtain ⟨i, rfl, _⟩ := h; rfl
  · obtain ⟨d, rfl, h⟩ := h
    walk_at "rd"
    refine ⟨_, _, _, _, _, rfl, .ty "str", .base (.str _), kit_ty kb_ss, ?_⟩
    walk_at "rd"
    refine ⟨_, _, rfl, .inr (steps_at T H), rfl, rfl, ?_⟩
    have e : inV (.str d.t) [.str "E", .str "W", .str "U", .str "D"] = true := by cases d <;> rfl
    show Q (.bl (inV (.str d.t) [.str "E", .str "W", .str "U", .str "D"])) H
    rw [e]
    exact h
def spChkInt : Sp := fun vs H Q _ => ∃ (i : Int) (l : V), vs = [.int i, l] ∧ (l = .non ∨ ∃ m : Int, l = .int m ∧ m ≤ i) ∧ Q .non H
theorem scCheckInteger : FnScope ["value", "least"] ["value", "least"] (defScope sCheckInteger) := ⟨rfl, rfl, rfl, by decide +kernel, rfl, by decide +kernel, by decide +kernel⟩
include T in
theorem ok_check_integer : Cal P w K mg base 2 "check_integer" spChkInt [] ∧ Cal P w K mg base 2 "check_integer" spChkInt [.non] := by
  obtain ⟨fd, F⟩ := T.d_CheckInteger
  have G : FnOk P w K mg base (L2.CX P w) 2 (He.ga K "check_integer") fd ["value", "least"] spChkInt := by
    refine F.ok scCheckInteger (fun vs H Q E h => ?_) (fun cdv A outer s H vs Q E hr h => ⟨_, PSs.nox (pss_one (ps_if (PW.pt (pw_or (pt_not (pt_val (pe_c (ok_is_integer T) hr (by decide) (pa_cons (pv 0) pa_nil)))) (pw_or1 (PW.pt (pw_and (pt_cmp (pc_notN (pv 1))) (pw_and1 (pt_cmp (pc_lt (pv 0) (pv 1))))))))) pss_never pss_nil)), ?_⟩)
    · obtain ⟨i, l, rfl, _⟩ := h; rfl
    · obtain ⟨i, l, rfl, hl, h⟩ := h
      walk_at "rd"
      rcases hl with rfl | ⟨m, rfl, hm⟩
      · walk_at "rd"
        exact h
      · walk_at "rd"
        refine ite2 (fun z => absurd hm ?_) fun _ => h
        have := of_decide_eq_true z
        omega
  constructor
  · refine ⟨_, fd, ["value", "least"], [], G, T.g_check_integer, F.kp, ?_, .nil⟩
    obtain ⟨ds, rd, b⟩ := F.binds1 2 1 (ps := ["value", "least"]) (by simp) (by rfl) fun T kV doc pm an cdv ct us its hl h2 => match us, its, hl, h2 with | [_, _], [_], _, _ => ⟨_, rfl, rfl⟩
    cases rd
    exact b
  · obtain ⟨ds, rd, b⟩ := F.binds1 1 0 (ps := ["value", "least"]) (by simp) (by rfl) fun T kV doc pm an cdv ct us its hl h2 => match us, its, hl, h2 with | [_], [_], _, _ => ⟨_, rfl, rfl⟩
    exact ⟨_, fd, ["value", "least"], ds, G, T.g_check_integer, F.kp, b, rd⟩
end
end Hs
end

/-! HsD2 -/
section
set_option Elab.async false
set_option linter.all false
set_option maxRecDepth 100000
set_option maxHeartbeats 4000000
namespace Hs
open PySem PySem.Spec PyProof.Rows L2
local macro_rules | `(tactic| walk_at "ix") => `(tactic| refine ⟨_, _, _, _, rfl, rfl, SqT.of (by assumption), (by first | exact at0 | exact at1 | exact at2 | exact at3), ?_⟩)
local macro_rules | `(tactic| walk_at "rd") => `(tactic| repeat (first | refine ⟨_, rfl, ?_⟩ | refine ⟨_, _, rfl, rfl, ?_⟩ | walk_at "ix"))
local macro_rules | `(tactic| walk_at "b") => `(tactic| first | (exact fun _ _ _ _ _ _ us hl => match us, hl with | [_], _ => rfl) | (exact fun _ _ _ _ _ _ us hl => match us, hl with | [_, _], _ => rfl) | (exact fun _ _ _ _ _ _ us hl => match us, hl with | [_, _, _], _ => rfl) | (exact fun _ _ _ _ _ _ us hl => match us, hl with | [_, _, _, _], _ => rfl))
section
variable {P : Program} {w : World} {K : PySem.W.Frag} {mg : Str → Option Value} {base : Heap} (T : Tx K mg)
/-! ### is_state, check_state, apply_to, difference -/
def spIsState : Sp := fun vs H Q _ => ∃ (v : V) (p : P3), vs = [v] ∧ IsP H v p ∧ ∀ H', Same H H' → Q (.bl true) H'
theorem scIsState : FnScope ["value", "item"] ["value"] (defScope sIsState) := ⟨rfl, rfl, rfl, by decide +kernel, rfl, by decide +kernel, by decide +kernel⟩
theorem list64 {n : Nat} (h : n ≤ 64) : n ≤ sizeLine := by rw [sizeLine_eq]; omega
include T in
theorem ok_is_state : Cal P w K mg base 2 "is_state" spIsState [] := by
  obtain ⟨fd, F⟩ := T.d_IsState
  refine ⟨_, fd, ["value"], [], F.ok scIsState (fun vs H Q E h => ?_) (fun cdv A outer s H vs Q E hr h => ⟨_, PSs.nox (pss_one (ps_ret (pe_and (pe_callB call_isi rfl T.f_isinstance boot_isinstance (pa_cons (pv 0) (pa_cons (pe_bltn (v := .ty "tuple") rfl T.f_tuple boot_tuple rfl) pa_nil))) (pe_and (pe_cmp (pc_eqI (pe_callB call_len_seq rfl T.f_len boot_len (pa_cons (pv 0) pa_nil)) pe_int)) (pe_one (pe_callB (cr_all rfl) rfl T.f_all boot_all (pa_cons (pe_lc (own := [("item", 1)]) (g := gName 1) (tt := tYes) rfl scIsState.nd (pi_tup (pv 0)) (blkOk_by (own := [("item", 1)]) (N := ["value", "item"]) (sc := defScope sIsState) (by decide +kernel)) (fun _ _ _ _ _ => pg_name (i := 1) scIsState.nd rfl (by first | exact Or.inl rfl | exact Or.inr rfl)) (fun _ _ _ _ _ => pts_nil) (fun _ _ _ _ _ => pe_c (ok_is_integer T) hr (by decide) (pa_cons (pv 1) pa_nil))) pa_nil))))))), ?_⟩),
    T.g_is_state, F.kp, F.bindsN (by walk_at "b"), .nil⟩
  · obtain ⟨v, p, rfl, _⟩ := h; rfl
  · obtain ⟨v, p, rfl, ⟨a, rfl, ha⟩, h⟩ := h
    walk_at "rd"
    refine ⟨_, _, _, _, _, rfl, .ty "tuple", .base (.tup ha), kit_ty kb_tt, ?_⟩
    walk_at "rd"
    refine ⟨_, _, rfl, .inr (SqT.of ha), ?_⟩
    walk_at "rd"
    refine ⟨⟨_, SqT.of ha⟩, fun D hD => ?_⟩
    refine lc_tup (xs := [.int p.x, .int p.h, .int p.s]) (fun i H' => Same H H' ∧ H' D = some (.lst (List.replicate i (.bl true)))) ⟨same_upd hD, upd_same⟩ (fun i H' _ q => SqT.of (q.1 _ _ ha)) (fun i x H' hx q => ?_) fun H' q => ?_
    · have hi : ∃ n : Int, x = .int n := by
        match i, hx with
        | 0, hx => exact ⟨p.x, (Option.some.inj hx).symm⟩
        | 1, hx => exact ⟨p.h, (Option.some.inj hx).symm⟩
        | 2, hx => exact ⟨p.s, (Option.some.inj hx).symm⟩
        | n + 3, hx => simp at hx
      obtain ⟨n, rfl⟩ := hi
      have hl : i < 3 := by have := (List.getElem?_eq_some_iff.mp hx).1; simpa using this
      refine ⟨rfl, ?_⟩
      walk_at "rd"
      refine ⟨_, q.2, ?_, same_at hD q.1, ?_⟩
      · rw [List.length_replicate, sizeLine_eq]; omega
      · rw [upd_same, ← List.replicate_succ']
    · refine ⟨_, [true, true, true], rfl, SqL.of q.2, ?_⟩
      exact h H' q.1
def spChkState : Sp := fun vs H Q _ => ∃ (v : V) (p : P3), vs = [v] ∧ IsP H v p ∧ ∀ H', Same H H' → Q .non H'
theorem scCheckState : FnScope ["value"] ["value"] (defScope sCheckState) := ⟨rfl, rfl, rfl, by decide +kernel, rfl, by decide +kernel, by decide +kernel⟩
include T in
theorem ok_check_state : Cal P w K mg base 3 "check_state" spChkState [] := by
  obtain ⟨fd, F⟩ := T.d_CheckState
  refine ⟨_, fd, ["value"], [], F.ok scCheckState (fun vs H Q E h => ?_) (fun cdv A outer s H vs Q E hr h => ⟨_, PSs.nox (pss_one (ps_if (pt_not (pt_val (pe_c (ok_is_state T) hr (by decide) (pa_cons (pv 0) pa_nil)))) pss_never pss_nil)), ?_⟩),
    T.g_check_state, F.kp, F.bindsN (by walk_at "b"), .nil⟩
  · obtain ⟨v, p, rfl, _⟩ := h; rfl
  · obtain ⟨v, p, rfl, hp, h⟩ := h
    walk_at "rd"
    refine ⟨_, _, rfl, hp, fun H' s => ?_⟩
    walk_at "rd"
    exact h H' s
def spApply : Sp := fun vs H Q _ => ∃ (v u : V) (p d : P3), vs = [v, u] ∧ IsP H v p ∧ IsP H u d ∧ CMulW p.h d.x ∧ ∀ (H' : Hp) (r : V), Same H H' → IsP H' r ⟨p.x + d.x, p.h + d.h, p.s + d.s + p.h * d.x⟩ → Q r H'
theorem scApplyTo : FnScope ["start", "displacement", "total"] ["start", "displacement"] (defScope sApplyTo) := ⟨rfl, rfl, rfl, by decide +kernel, rfl, by decide +kernel, by decide +kernel⟩
include T in
theorem ok_apply_to : Cal P w K mg base 1 "apply_to" spApply [] := by
  obtain ⟨fd, F⟩ := T.d_ApplyTo
  refine ⟨_, fd, ["start", "displacement"], [], F.ok scApplyTo (fun vs H Q E h => ?_) (fun cdv A outer s H vs Q E hr h => ⟨_, PSs.nox (pss_cons (ps_set (i := 2) scApplyTo.nd rfl (by first | exact Or.inl rfl | exact Or.inr rfl) (pe_op op_add (pe_op op_add (pe_ix ix_tup (pv 0) pe_int (fun _ _ => rfl)) (pe_ix ix_tup (pv 1) pe_int (fun _ _ => rfl))) (pe_op op_mulW (pe_ix ix_tup (pv 0) pe_int (fun _ _ => rfl)) (pe_ix ix_tup (pv 1) pe_int (fun _ _ => rfl)))))
      (pss_one (ps_ret (pe_tup (pa_cons (pe_op op_add (pe_ix ix_tup (pv 0) pe_int (fun _ _ => rfl)) (pe_ix ix_tup (pv 1) pe_int (fun _ _ => rfl))) (pa_cons (pe_op op_add (pe_ix ix_tup (pv 0) pe_int (fun _ _ => rfl)) (pe_ix ix_tup (pv 1) pe_int (fun _ _ => rfl))) (pa_cons (pv 2) pa_nil))))))), ?_⟩),
    T.g_apply_to, F.kp, F.bindsN (by walk_at "b"), .nil⟩
  · obtain ⟨v, u, p, d, rfl, _⟩ := h; rfl
  · obtain ⟨v, u, p, d, rfl, ⟨a, rfl, ha⟩, ⟨b, rfl, hb⟩, hc, h⟩ := h
    walk_at "rd"
    refine ⟨hc, ?_⟩
    walk_at "rd"
    exact ⟨l3, fun p hp => h _ _ (same_upd hp) ⟨p, rfl, upd_same⟩⟩
def spDiff : Sp := fun vs H Q _ => ∃ (v u : V) (p d : P3), vs = [v, u] ∧ IsP H v p ∧ IsP H u d ∧ CMulW p.h (d.x - p.x) ∧ ∀ (H' : Hp) (r : V), Same H H' → IsP H' r ⟨d.x - p.x, d.h - p.h, d.s - p.s - p.h * (d.x - p.x)⟩ → Q r H'
theorem scDifference : FnScope ["start", "end", "x", "h"] ["start", "end"] (defScope sDifference) := ⟨rfl, rfl, rfl, by decide +kernel, rfl, by decide +kernel, by decide +kernel⟩
include T in
theorem ok_difference : Cal P w K mg base 1 "difference" spDiff [] := by
  obtain ⟨fd, F⟩ := T.d_Difference
  refine ⟨_, fd, ["start", "end"], [], F.ok scDifference (fun vs H Q E h => ?_) (fun cdv A outer s H vs Q E hr h => ⟨_, PSs.nox (pss_cons (ps_par (i := 2) (j := 3) rfl scDifference.nd rfl rfl (by decide) rfl rfl (pa_cons (pe_op op_sub (pe_ix ix_tup (pv 1) pe_int (fun _ _ => rfl)) (pe_ix ix_tup (pv 0) pe_int (fun _ _ => rfl))) (pa_cons (pe_op op_sub (pe_ix ix_tup (pv 1) pe_int (fun _ _ => rfl)) (pe_ix ix_tup (pv 0) pe_int (fun _ _ => rfl))) pa_nil)) rfl)
      (pss_one (ps_ret (pe_tup (pa_cons (pv 2) (pa_cons (pv 3) (pa_cons (pe_op op_sub (pe_op op_sub (pe_ix ix_tup (pv 1) pe_int (fun _ _ => rfl)) (pe_ix ix_tup (pv 0) pe_int (fun _ _ => rfl))) (pe_op op_mulW (pe_ix ix_tup (pv 0) pe_int (fun _ _ => rfl)) (pv 2))) pa_nil))))))), ?_⟩),
    T.g_difference, F.kp, F.bindsN (by walk_at "b"), .nil⟩
  · obtain ⟨v, u, p, d, rfl, _⟩ := h; rfl
  · obtain ⟨v, u, p, d, rfl, ⟨a, rfl, ha⟩, ⟨b, rfl, hb⟩, hc, h⟩ := h
    walk_at "rd"
    refine ⟨_, _, rfl, ?_⟩
    walk_at "rd"
    refine ⟨hc, ?_⟩
    walk_at "rd"
    exact ⟨l3, fun p hp => h _ _ (same_upd hp) ⟨p, rfl, upd_same⟩⟩
/-! ### runs -/
def spIsRun : Sp := fun vs H Q _ => ∃ (v : V) (r : Run), vs = [v] ∧ IsRun H v r ∧ 0 < r.2 ∧ Q (.bl true) H
theorem scIsRun : FnScope ["value"] ["value"] (defScope sIsRun) := ⟨rfl, rfl, rfl, by decide +kernel, rfl, by decide +kernel, by decide +kernel⟩
include T in
theorem ok_is_run : Cal P w K mg base 3 "is_run" spIsRun [] := by
  obtain ⟨fd, F⟩ := T.d_IsRun
  refine ⟨_, fd, ["value"], [], F.ok scIsRun (fun vs H Q E h => ?_) (fun cdv A outer s H vs Q E hr h => ⟨_, PSs.nox (pss_one (ps_ret (pe_and (pe_callB call_isi rfl T.f_isinstance boot_isinstance (pa_cons (pv 0) (pa_cons (pe_bltn (v := .ty "tuple") rfl T.f_tuple boot_tuple rfl) pa_nil))) (pe_and (pe_cmp (pc_eqI (pe_callB call_len_seq rfl T.f_len boot_len (pa_cons (pv 0) pa_nil)) pe_int)) (pe_and (pe_c (ok_is_step T) hr (by decide) (pa_cons (pe_ix ix_tup (pv 0) pe_int (fun _ _ => rfl)) pa_nil)) (pe_and (pe_c (ok_is_count T) hr (by decide) (pa_cons (pe_ix ix_tup (pv 0) pe_int (fun _ _ => rfl)) pa_nil)) (pe_one (pe_cmp (pc_gt (pe_ix ix_tup (pv 0) pe_int (fun _ _ => rfl)) pe_int))))))))), ?_⟩),
    T.g_is_run, F.kp, F.bindsN (by walk_at "b"), .nil⟩
  · obtain ⟨v, r, rfl, _⟩ := h; rfl
  · obtain ⟨v, ⟨d, n⟩, rfl, ⟨a, rfl, ha⟩, h0, h⟩ := h
    walk_at "rd"
    refine ⟨_, _, _, _, _, rfl, .ty "tuple", .base (.tup ha), kit_ty kb_tt, ?_⟩
    walk_at "rd"
    refine ⟨_, _, rfl, .inr (SqT.of ha), ?_⟩
    walk_at "rd"
    have e1 : decide ((0 : Int) ≤ n) = true := decide_eq_true (Int.le_of_lt h0)
    have e2 : decide ((0 : Int) < n) = true := decide_eq_true h0
    refine ite2 (fun _ => ?_) (fun z => absurd e1 z)
    walk_at "rd"
    show Q (.bl (decide ((0 : Int) < n))) H
    rw [e2]
    exact h
def spChkRuns : Sp := fun vs H Q _ => ∃ (l : Addr) (rs : List Run), vs = [.ref l] ∧ IsRuns H l rs ∧ (∀ r ∈ rs, 0 < r.2) ∧ ∀ H', Same H H' → Q .non H'
theorem scCheckRuns : FnScope ["value", "position", "run"] ["value"] (defScope sCheckRuns) := ⟨rfl, rfl, rfl, by decide +kernel, rfl, by decide +kernel, by decide +kernel⟩
include T in
theorem ok_check_runs : Cal P w K mg base 4 "check_runs" spChkRuns [] := by
  obtain ⟨fd, F⟩ := T.d_CheckRuns
  refine ⟨_, fd, ["value"], [], F.ok scCheckRuns (fun vs H Q E h => ?_) (fun cdv A outer s H vs Q E hr h => ⟨_, PSs.nox (pss_cons (ps_if (pt_not (pt_val (pe_callB call_isiT rfl T.f_isinstance boot_isinstance (pa_cons (pv 0) (pa_cons (pe_tup (pa_cons (pe_bltn (v := .ty "list") rfl T.f_list boot_list rfl) (pa_cons (pe_bltn (v := .ty "tuple") rfl T.f_tuple boot_tuple rfl) pa_nil))) pa_nil))))) pss_never pss_nil)
      (pss_one (ps_for PassesOwn.never rfl (pi_enum rfl T.f_enumerate (pa_cons (pv 0) pa_nil)) (pg_tup rfl (pgs_cons (pg_name (i := 1) scCheckRuns.nd rfl (by first | exact Or.inl rfl | exact Or.inr rfl)) (pgs_cons (pg_name (i := 2) scCheckRuns.nd rfl (by first | exact Or.inl rfl | exact Or.inr rfl)) pgs_nil))) (pss_one (ps_if (pt_not (pt_val (pe_c (ok_is_run T) hr (by decide) (pa_cons (pv 2) pa_nil)))) pss_never pss_nil))))), ?_⟩),
    T.g_check_runs, F.kp, F.bindsN (by walk_at "b"), .nil⟩
  · obtain ⟨v, r, rfl, _⟩ := h; rfl
  · obtain ⟨l, rs, rfl, ⟨xs, hl, hx'⟩, hp, h⟩ := h
    walk_at "rd"
    refine ⟨l2, fun tp htp => ?_⟩
    walk_at "rd"
    have s0 : Same H (upd H tp (.tup [.ty "list", .ty "tuple"])) := same_upd htp
    refine ⟨_, _, _, _, _, _, rfl, upd_same, .cons (.ty "list") (.cons (.ty "tuple") .nil), .base (.lst (s0 _ _ hl)), kitAny_cons (b := true) (kit_ty kb_ll) (fun z => nomatch z) (fun _ => rfl), ?_⟩
    walk_at "rd"
    refine ⟨_, _, rfl, SqL.of (s0 _ _ hl), ?_⟩
    refine for_enum (xs := xs) (fun i σ H' => Same H H' ∧ ∃ u v, σ = [some (.ref l), u, v]) ⟨s0, _, _, rfl⟩ (fun i σ H' _ q => SqL.of (q.1 _ _ hl)) (fun i x σ H' T hx q hT => ?_) (fun σ H' q => h _ q.1)
    obtain ⟨r, hr', hxr⟩ := hx'.at_ hx
    obtain ⟨s1, u, v, rfl⟩ := q
    have s2 : Same H (upd H' T (.tup [.int (i : Nat), x])) := same_upd2 s1 hT
    refine ⟨_, _, rfl, SqT.of upd_same, rfl, _, _, rfl, _, _, rfl, rfl, ?_⟩
    walk_at "rd"
    refine ⟨_, _, rfl, hxr.mono s2, hp _ (List.mem_of_getElem? hr'), ?_⟩
    walk_at "rd"
    exact ⟨s2, _, _, rfl⟩
/-- append_run: the list at l is changed -/
def spAppRun : Sp := fun vs H Q _ => ∃ (l : Addr) (d : Dir) (n : Int) (rs : List Run), vs = [.ref l, .str d.t, .int n] ∧ IsRuns H l rs ∧ rs.length < 10000 ∧ ∀ H', SameX l H H' → IsRuns H' l (appRun rs d n) → Q .non H'
theorem scAppendRun : FnScope ["merged", "step", "length"] ["merged", "step", "length"] (defScope sAppendRun) := ⟨rfl, rfl, rfl, by decide +kernel, rfl, by decide +kernel, by decide +kernel⟩
include T in
theorem ok_append_run : Cal P w K mg base 1 "append_run" spAppRun [] := by
  obtain ⟨fd, F⟩ := T.d_AppendRun
  refine ⟨_, fd, ["merged", "step", "length"], [], F.ok scAppendRun (fun vs H Q E h => ?_) (fun cdv A outer s H vs Q E hr h => ⟨_, PSs.nox (pss_one (ps_if (pt_cmp (pc_gt (pv 2) pe_int)) (pss_cons (ps_if (PW.pt (pw_and (pt_cmpR (op_neD hr.units) (pv 0) (pe_lst pa_nil) (nomark _)) (pw_and1 (pt_cmpR op_eq (pe_ix ix_tup (pe_ix ix_list (pv 0) (pe_un un_neg pe_int) (fun _ _ => rfl)) pe_int (fun _ _ => rfl)) (pv 1) (nomark _))))) (pss_one (ps_aug (i := 2) scAppendRun.nd rfl (by first | exact Or.inl rfl | exact Or.inr rfl) (pe_ix ix_tup (pe_bm0 PySem.F.plainAttrs_list PySem.F.slot_list_pop PySem.F.type_list_pop mt_pop (pv 0)) pe_int (fun _ _ => rfl)) ip_add)) pss_nil)
      (pss_one (ps_expr (pe_bm PySem.F.plainAttrs_list PySem.F.slot_list_append PySem.F.type_list_append mt_append (pv 0) (pa_cons (pe_tup (pa_cons (pv 1) (pa_cons (pv 2) pa_nil))) pa_nil))))) pss_nil)), ?_⟩),
    T.g_append_run, F.kp, F.bindsN (by walk_at "b"), .nil⟩
  · obtain ⟨l, d, n, rs, rfl, _⟩ := h; rfl
  · obtain ⟨l, d, n, rs, rfl, ⟨xs, hl, hx⟩, hz, h⟩ := h
    walk_at "rd"
    refine ite2 (fun hn => ?_) (fun hn => ?_)
    · have hn' : 0 < n := of_decide_eq_true hn
      walk_at "rd"
      refine ⟨l0, fun p hp => ?_⟩
      have s1 : Same H (upd H p (.lst [])) := same_upd hp
      have npl : l ≠ p := ne_none hl hp
      refine ⟨_, _, (IsRuns.mono ⟨xs, hl, hx⟩ s1).dp, nil_dp upd_same, runs_shaped rs, nil_shaped, ?_⟩
      walk_at "rd"
      have fin : ∀ (H2 : Hp) (m : Int) (rs2 : List Run), SameX l H H2 → IsRuns H2 l rs2 → rs2.length < 10000 → (∀ H', SameX l H H' → IsRuns H' l (rs2 ++ [(d, m)]) → Q .non H') →
          tDrop (tBM K "list" rAppend (tVar 0) (tCons (tTup (tCons (tVar 1) (tCons (tVar 2) tNil))) tNil)) { nx := fun _ H' => Q .non H', rt := Q } [some (.ref l), some (.str d.t), some (.int m)] H2 := by
        intro H2 m rs2 s2 ⟨ys, hy, hys⟩ hz2 h2
        refine ⟨_, rfl, .inl ⟨rfl, _, SqL.of hy⟩, ?_⟩
        walk_at "rd"
        refine ⟨l2, fun q hq => ?_⟩
        have nq : l ≠ q := ne_none hy hq
        refine ⟨_, _, _, rfl, rfl, by rw [upd_ne nq]; exact hy, ?_, ?_⟩
        · rw [hys.len, sizeLine_eq]; omega
        · refine h2 _ ((s2.trans (SameX.of (same_upd hq))).trans SameX.upd) ⟨_, upd_same, (hys.imp fun _ _ r => (r.mono (same_upd hq)).monoX SameX.upd (by rw [upd_ne nq]; exact hy)).app (.one ⟨q, rfl, ?_⟩)⟩
          rw [upd_ne nq.symm, upd_same]
      rcases List.eq_nil_or_concat rs with rfl | ⟨rs', ⟨d', m⟩, rfl⟩
      · rw [eqv_nil]
        exact fin _ n [] (.of s1) (IsRuns.mono ⟨xs, hl, hx⟩ s1) (by simp) fun H' a b => h H' a (by unfold appRun; rw [if_pos hn']; exact b)
      · rw [List.concat_eq_append] at *
        have e0 : decide (rs' ++ [(d', m)] = []) = false := by simp
        rw [eqv_nil, e0]
        obtain ⟨us, x, rfl, hus, hxr⟩ := hx.snoc_inv
        obtain ⟨a, rfl, ha⟩ := hxr
        have ha1 := s1 _ _ ha
        have hl1 := s1 _ _ hl
        walk_at "rd"
        refine ⟨_, _, _, _, rfl, rfl, SqL.of hl1, atI_last _ _, ?_⟩
        walk_at "rd"
        refine ⟨rfl, ?_⟩
        walk_at "rd"
        have lst : ∀ H', (IsRuns H' l (if d' = d then rs' ++ [(d, n + m)] else rs' ++ [(d', m)] ++ [(d, n)])) → IsRuns H' l (appRun (rs' ++ [(d', m)]) d n) := fun H' q => by
          unfold appRun
          rw [if_pos hn', List.getLast?_concat, List.dropLast_concat]
          exact q
        refine ite2 (fun z => ?_) (fun z => ?_)
        · have ed : d' = d := Dir.t_inj (V.str.inj (of_decide_eq_true z))
          subst ed
          walk_at "rd"
          refine ⟨.inl ⟨rfl, _, SqL.of hl1⟩, _, _, _, rfl, rfl, hl1, last_get _ _, ?_⟩
          rw [List.dropLast_concat]
          have nal : a ≠ l := fun z => by rw [z, hl] at ha; cases ha
          have ha2 : upd (upd H p (.lst [])) l (.lst us) a = some (.tup [.str d'.t, .int m]) := by rw [upd_ne nal]; exact ha1
          refine ⟨_, _, _, _, rfl, rfl, SqT.of ha2, at1, _, _, rfl, rfl, ?_⟩
          have s2 : SameX l H (upd (upd H p (.lst [])) l (.lst us)) := (SameX.of s1).trans SameX.upd
          refine fin _ (n + m) rs' s2 ⟨us, upd_same, hus.imp fun _ _ r => r.monoX s2 hl⟩ (by simp at hz; omega) fun H' a b => h H' a (lst H' (by rw [if_pos rfl]; exact b))
        · have ed : ¬ d' = d := fun e => z (decide_eq_true (by rw [e]))
          exact fin _ n (rs' ++ [(d', m)]) (.of s1) (IsRuns.mono ⟨_, hl, hx⟩ s1) hz fun H' a b => h H' a (lst H' (by rw [if_neg ed]; exact b))
    · exact h H (.of (Same.refl H)) (by unfold appRun; rw [if_neg (fun z => hn (decide_eq_true z))]; exact ⟨xs, hl, hx⟩)
end
end Hs
end

/-! HsD3 -/
section
set_option Elab.async false
set_option linter.all false
set_option maxRecDepth 100000
set_option maxHeartbeats 4000000
namespace Hs
open PySem PySem.Spec PyProof.Rows L2
local macro_rules | `(tactic| walk_at "ix") => `(tactic| refine ⟨_, _, _, _, rfl, rfl, SqT.of (by assumption), (by first | exact at0 | exact at1 | exact at2 | exact at3), ?_⟩)
local macro_rules | `(tactic| walk_at "rd") => `(tactic| repeat (first | refine ⟨_, rfl, ?_⟩ | refine ⟨_, _, rfl, rfl, ?_⟩ | refine ⟨_, _, rfl, ?_⟩ | walk_at "ix"))
local macro_rules | `(tactic| walk_at "b") => `(tactic| first | (exact fun _ _ _ _ _ _ us hl => match us, hl with | [_], _ => rfl) | (exact fun _ _ _ _ _ _ us hl => match us, hl with | [_, _], _ => rfl) | (exact fun _ _ _ _ _ _ us hl => match us, hl with | [_, _, _], _ => rfl) | (exact fun _ _ _ _ _ _ us hl => match us, hl with | [_, _, _, _], _ => rfl))
section
variable {P : Program} {w : World} {K : PySem.W.Frag} {mg : Str → Option Value} {base : Heap} (T : Tx K mg)
/-! ### merge_runs, total_steps, run_displacement, after_runs, first_steps, state_after -/
theorem mergeR_len : ∀ (rs acc : List Run), (mergeR acc rs).length ≤ acc.length + rs.length
  | [], acc => by simp [mergeR]
  | (d, n) :: rs, acc => by
    have a := mergeR_len rs (appRun acc d n)
    have b := appRun_len acc d n
    show (mergeR (appRun acc d n) rs).length ≤ _
    rw [List.length_cons]
    omega
theorem mergeR_snoc (rs : List Run) : ∀ (acc : List Run) (d : Dir) (n : Int), mergeR acc (rs ++ [(d, n)]) = appRun (mergeR acc rs) d n := by
  induction rs with
  | nil => intro acc d n; rfl
  | cons r rs ih => intro acc d n; obtain ⟨d', m⟩ := r; exact ih _ d n
def spMerge : Sp := fun vs H Q _ => ∃ (l : Addr) (rs : List Run), vs = [.ref l] ∧ IsRuns H l rs ∧ (∀ r ∈ rs, 0 < r.2) ∧ rs.length < 5000 ∧ ∀ (H' : Hp) (l' : Addr), Same H H' → H l' = none → IsRuns H' l' (mergeR [] rs) → Q (.ref l') H'
theorem scMergeRuns : FnScope ["runs", "merged", "step", "length"] ["runs"] (defScope sMergeRuns) := ⟨rfl, rfl, rfl, by decide +kernel, rfl, by decide +kernel, by decide +kernel⟩
include T in
theorem ok_merge_runs : Cal P w K mg base 5 "merge_runs" spMerge [] := by
  obtain ⟨fd, F⟩ := T.d_MergeRuns
  refine ⟨_, fd, ["runs"], [], F.ok scMergeRuns (fun vs H Q E h => ?_) (fun cdv A outer s H vs Q E hr h => ⟨_, PSs.nox (pss_cons (ps_expr (pe_c (ok_check_runs T) hr (by decide) (pa_cons (pv 0) pa_nil)))
      (pss_cons (ps_set (i := 1) scMergeRuns.nd rfl (by first | exact Or.inl rfl | exact Or.inr rfl) (pe_lst pa_nil))
      (pss_cons (ps_for PassesOwn.never rfl (pi_list (pv 0)) (pg_tup rfl (pgs_cons (pg_name (i := 2) scMergeRuns.nd rfl (by first | exact Or.inl rfl | exact Or.inr rfl)) (pgs_cons (pg_name (i := 3) scMergeRuns.nd rfl (by first | exact Or.inl rfl | exact Or.inr rfl)) pgs_nil))) (pss_one (ps_expr (pe_c (ok_append_run T) hr (by decide) (pa_cons (pv 1) (pa_cons (pv 2) (pa_cons (pv 3) pa_nil)))))))
      (pss_one (ps_ret (pv 1)))))), ?_⟩),
    T.g_merge_runs, F.kp, F.bindsN (by walk_at "b"), .nil⟩
  · obtain ⟨v, r, rfl, _⟩ := h; rfl
  · obtain ⟨l, rs, rfl, hR, hp, hz, h⟩ := h
    walk_at "rd"
    refine ⟨_, _, rfl, hR, hp, fun H1 s1 => ?_⟩
    walk_at "rd"
    refine ⟨l0, fun m hm => ?_⟩
    have s2 := same_upd2 s1 (o := .lst []) hm
    have hm0 : H m = none := Same.free s1 hm
    obtain ⟨xs, hl, hx⟩ := hR
    refine ⟨_, rfl, _, rfl, ⟨_, SqL.of (s2 _ _ hl)⟩, ?_⟩
    refine for_list (xs := xs) (fun i σ H' => Same H H' ∧ IsRuns H' m (mergeR [] (rs.take i)) ∧ ∃ u v, σ = [some (.ref l), some (.ref m), u, v]) ⟨s2, ⟨[], upd_same, .nil⟩, _, _, rfl⟩ (fun i σ H' _ q => SqL.of (q.1 _ _ hl)) (fun i x σ H' hxi q => ?_) (fun σ H' q => ?_)
    · obtain ⟨s3, hm3, u, v, rfl⟩ := q
      obtain ⟨⟨d, n⟩, hr', hxr⟩ := hx.at_ hxi
      obtain ⟨a, rfl, ha⟩ := hxr.mono s3
      refine ⟨_, _, rfl, SqT.of ha, rfl, _, _, rfl, _, _, rfl, rfl, ?_⟩
      walk_at "rd"
      refine ⟨_, _, _, _, rfl, hm3, ?_, fun H4 s4 h4 => ⟨?_, ?_, _, _, rfl⟩⟩
      · have h1 := mergeR_len (rs.take i) []
        have h2 : (rs.take i).length ≤ rs.length := List.length_take_le' _ _
        rw [List.length_nil] at h1
        omega
      · exact fun b o e => s4 b o (ne_none e hm0) (s3 b o e)
      · have e : rs.take (i + 1) = rs.take i ++ [(d, n)] := by rw [List.take_succ, hr']; rfl
        rw [e, mergeR_snoc]
        exact h4
    · obtain ⟨s3, hm3, u, v, rfl⟩ := q
      rw [hx.len, List.take_length] at hm3
      exact ⟨_, rfl, h H' m s3 hm0 hm3⟩
def spTotal : Sp := fun vs H Q _ => ∃ (l : Addr) (rs : List Run), vs = [.ref l] ∧ IsRuns H l rs ∧ (∀ r ∈ rs, 0 < r.2) ∧ rs.length < 5000 ∧ ∀ (H' : Hp), Same H H' → Q (.int (totR rs)) H'
theorem scTotalSteps : FnScope ["runs", "step", "length"] ["runs"] (defScope sTotalSteps) := ⟨rfl, rfl, rfl, by decide +kernel, rfl, by decide +kernel, by decide +kernel⟩
include T in
theorem ok_total_steps : Cal P w K mg base 5 "total_steps" spTotal [] := by
  obtain ⟨fd, F⟩ := T.d_TotalSteps
  refine ⟨_, fd, ["runs"], [], F.ok scTotalSteps (fun vs H Q E h => ?_) (fun cdv A outer s H vs Q E hr h => ⟨_, PSs.nox (pss_cons (ps_expr (pe_c (ok_check_runs T) hr (by decide) (pa_cons (pv 0) pa_nil)))
      (pss_one (ps_ret (pe_callB (cr_sum rfl) rfl T.f_sum boot_sum (pa_cons (pe_lc (own := [("step", 1), ("length", 2)]) (g := gTup K 2 (gCons (gName 1) (gCons (gName 2) gNil))) (tt := tYes) rfl scTotalSteps.nd (pi_list (pv 0)) (blkOk_by (own := [("step", 1), ("length", 2)]) (N := ["runs", "step", "length"]) (sc := defScope sTotalSteps) (by decide +kernel)) (fun _ _ _ _ _ => pg_tup rfl (pgs_cons (pg_name (i := 1) scTotalSteps.nd rfl (by first | exact Or.inl rfl | exact Or.inr rfl)) (pgs_cons (pg_name (i := 2) scTotalSteps.nd rfl (by first | exact Or.inl rfl | exact Or.inr rfl)) pgs_nil))) (fun _ _ _ _ _ => pts_nil) (fun _ _ _ _ _ => pv 2)) pa_nil))))), ?_⟩),
    T.g_total_steps, F.kp, F.bindsN (by walk_at "b"), .nil⟩
  · obtain ⟨v, r, rfl, _⟩ := h; rfl
  · obtain ⟨l, rs, rfl, hR, hp, hz, h⟩ := h
    walk_at "rd"
    refine ⟨_, _, rfl, hR, hp, fun H1 s1 => ?_⟩
    obtain ⟨xs, hl, hx⟩ := hR
    refine ⟨_, rfl, _, rfl, ⟨_, SqL.of (s1 _ _ hl)⟩, fun D hD => ?_⟩
    have hD0 : H D = none := Same.free s1 hD
    refine lc_list (xs := xs) (fun i H' => Same H H' ∧ H' D = some (.lst (((rs.take i).map (·.2)).map V.int))) ⟨same_upd2 s1 hD, upd_same⟩ (fun i H' _ q => SqL.of (q.1 _ _ hl)) (fun i x H' hxi q => ?_) fun H' q => ?_
    · obtain ⟨s3, hm3⟩ := q
      obtain ⟨⟨d, n⟩, hr', hxr⟩ := hx.at_ hxi
      obtain ⟨a, rfl, ha⟩ := hxr.mono s3
      refine ⟨_, _, rfl, SqT.of ha, rfl, _, _, rfl, _, _, rfl, rfl, rfl, ?_⟩
      walk_at "rd"
      refine ⟨_, hm3, ?_, same_at hD0 s3, ?_⟩
      · rw [List.length_map, List.length_map, sizeLine_eq]
        have : (rs.take i).length ≤ rs.length := List.length_take_le' _ _
        omega
      · have e : rs.take (i + 1) = rs.take i ++ [(d, n)] := by rw [List.take_succ, hr']; rfl
        rw [upd_same, e, List.map_append, List.map_append] <;> rfl
    · obtain ⟨s3, hm3⟩ := q
      rw [hx.len, List.take_length] at hm3
      exact ⟨_, _, rfl, SqL.of hm3, h H' s3⟩
def spRise : Sp := fun vs H Q _ => ∃ (d : Dir) (n : Int), vs = [.str d.t, .int n] ∧ ∀ (H' : Hp) (v : V), Same H H' → IsP H' v (riseR d n) → Q v H'
theorem scRunDisplacement : FnScope ["step", "length"] ["step", "length"] (defScope sRunDisplacement) := ⟨rfl, rfl, rfl, by decide +kernel, rfl, by decide +kernel, by decide +kernel⟩
include T in
theorem ok_run_displacement : Cal P w K mg base 1 "run_displacement" spRise [] := by
  obtain ⟨fd, F⟩ := T.d_RunDisplacement
  refine ⟨_, fd, ["step", "length"], [], F.ok scRunDisplacement (fun vs H Q E h => ?_) (fun cdv A outer s H vs Q E hr h => ⟨_, PSs.nox (pss_cons (ps_if (pt_cmpR op_in_seq (pv 0) (pe_tup (pa_cons pe_str (pa_cons pe_str pa_nil))) rfl) (pss_one (ps_ret (pe_tup (pa_cons (pe_ifExp (pt_cmpR op_eq (pv 0) pe_str (nomark _)) (pv 1) (pe_un un_neg (pv 1))) (pa_cons pe_int (pa_cons pe_int pa_nil)))))) pss_nil)
      (pss_one (ps_ret (pe_tup (pa_cons pe_int (pa_cons (pe_ifExp (pt_cmpR op_eq (pv 0) pe_str (nomark _)) (pv 1) (pe_un un_neg (pv 1))) (pa_cons pe_int pa_nil))))))), ?_⟩),
    T.g_run_displacement, F.kp, F.bindsN (by walk_at "b"), .nil⟩
  · obtain ⟨v, r, rfl, _⟩ := h; rfl
  · obtain ⟨d, n, rfl, h⟩ := h
    walk_at "rd"
    refine ⟨l2, fun p hp => ?_⟩
    have s0 : Same H (upd H p (.tup [.str "E", .str "W"])) := same_upd hp
    refine ⟨_, _, rfl, .inr (SqT.of upd_same), rfl, rfl, ?_⟩
    cases d
    all_goals
      walk_at "rd"
      refine ⟨rfl, ?_⟩
      walk_at "rd"
      exact ⟨l3, fun q hq => h _ _ (s0.trans (same_upd hq)) ⟨q, rfl, upd_same⟩⟩
/-- each product of the walk is small enough -/
def okA : P3 → List Run → Prop
  | _, [] => True
  | p, (d, n) :: r => CMulW p.h (riseR d n).x ∧ okA (moveR p d n) r
theorem okA_at : ∀ (rs : List Run) (p : P3) (i : Nat) (d : Dir) (n : Int), okA p rs → rs[i]? = some (d, n) → CMulW (afterR p (rs.take i)).h (riseR d n).x
  | (d', n') :: rs, p, 0, d, n, h, e => by
    have e' := Option.some.inj e
    cases e'
    exact h.1
  | (d', n') :: rs, p, i + 1, d, n, h, e => okA_at rs (moveR p d' n') i d n h.2 (by simpa using e)
theorem afterR_snoc (p : P3) (rs : List Run) (d : Dir) (n : Int) : afterR p (rs ++ [(d, n)]) = moveR (afterR p rs) d n := by
  unfold afterR
  rw [List.foldl_append] <;> rfl
def spAfter : Sp := fun vs H Q _ => ∃ (v : V) (p : P3) (l : Addr) (rs : List Run), vs = [v, .ref l] ∧ IsP H v p ∧ IsRuns H l rs ∧ okA p rs ∧ ∀ (H' : Hp) (u : V), Same H H' → IsP H' u (afterR p rs) → Q u H'
theorem scAfterRuns : FnScope ["state", "runs", "step", "length"] ["state", "runs"] (defScope sAfterRuns) := ⟨rfl, rfl, rfl, by decide +kernel, rfl, by decide +kernel, by decide +kernel⟩
include T in
theorem ok_after_runs : Cal P w K mg base 2 "after_runs" spAfter [] := by
  obtain ⟨fd, F⟩ := T.d_AfterRuns
  refine ⟨_, fd, ["state", "runs"], [], F.ok scAfterRuns (fun vs H Q E h => ?_) (fun cdv A outer s H vs Q E hr h => ⟨_, PSs.nox (pss_cons (ps_for PassesOwn.never rfl (pi_list (pv 1)) (pg_tup rfl (pgs_cons (pg_name (i := 2) scAfterRuns.nd rfl (by first | exact Or.inl rfl | exact Or.inr rfl)) (pgs_cons (pg_name (i := 3) scAfterRuns.nd rfl (by first | exact Or.inl rfl | exact Or.inr rfl)) pgs_nil))) (pss_one (ps_set (i := 0) scAfterRuns.nd rfl (by first | exact Or.inl rfl | exact Or.inr rfl) (pe_c (ok_apply_to T) hr (by decide) (pa_cons (pv 0) (pa_cons (pe_c (ok_run_displacement T) hr (by decide) (pa_cons (pv 2) (pa_cons (pv 3) pa_nil))) pa_nil))))))
      (pss_one (ps_ret (pv 0)))), ?_⟩),
    T.g_after_runs, F.kp, F.bindsN (by walk_at "b"), .nil⟩
  · obtain ⟨v, p, l, rs, rfl, _⟩ := h; rfl
  · obtain ⟨v, p, l, rs, rfl, hP, ⟨xs, hl, hx⟩, hA, h⟩ := h
    refine ⟨_, rfl, _, rfl, ⟨_, SqL.of hl⟩, ?_⟩
    refine for_list (xs := xs) (fun i σ H' => Same H H' ∧ ∃ z u v, IsP H' z (afterR p (rs.take i)) ∧ σ = [some z, some (.ref l), u, v]) ⟨Same.refl H, _, _, _, hP, rfl⟩ (fun i σ H' _ q => SqL.of (q.1 _ _ hl)) (fun i x σ H' hxi q => ?_) (fun σ H' q => ?_)
    · obtain ⟨s3, z, u, v, hz, rfl⟩ := q
      obtain ⟨⟨d, n⟩, hr', hxr⟩ := hx.at_ hxi
      obtain ⟨a, rfl, ha⟩ := hxr.mono s3
      refine ⟨_, _, rfl, SqT.of ha, rfl, _, _, rfl, _, _, rfl, rfl, ?_⟩
      walk_at "rd"
      intro H4 r4 s4 h4
      refine ⟨_, _, _, _, rfl, hz.mono s4, h4, okA_at rs p i d n hA hr', fun H5 r5 s5 h5 => ⟨(s3.trans s4).trans s5, _, _, _, ?_, rfl⟩⟩
      have e : rs.take (i + 1) = rs.take i ++ [(d, n)] := by rw [List.take_succ, hr']; rfl
      rw [e, afterR_snoc, moveR_eq]
      exact h5
    · obtain ⟨s3, z, u, v, hz, rfl⟩ := q
      rw [hx.len, List.take_length] at hz
      exact ⟨_, rfl, h H' z s3 hz⟩
def spFirst : Sp := fun vs H Q _ => ∃ (l : Addr) (rs : List Run) (k : Int), vs = [.ref l, .int k] ∧ IsRuns H l rs ∧ rs.length < 5000 ∧ ∀ (H' : Hp) (l' : Addr), Same H H' → H l' = none → IsRuns H' l' (firstR [] rs k) → Q (.ref l') H'
theorem firstR_len : ∀ (rs acc : List Run) (k : Int), (firstR acc rs k).length ≤ acc.length + rs.length
  | [], acc, k => by simp [firstR]
  | (d, n) :: rs, acc, k => by
    have a := firstR_len rs (appRun acc d (imin n k)) (k - imin n k)
    have b := appRun_len acc d (imin n k)
    show (firstR (appRun acc d (imin n k)) rs (k - imin n k)).length ≤ _
    rw [List.length_cons]
    omega
/-- what is left of the number behind the first runs -/
def leftR : List Run → Int → Int
  | [], k => k
  | (_, n) :: r, k => leftR r (k - imin n k)
theorem firstR_snoc (rs : List Run) : ∀ (acc : List Run) (k : Int) (d : Dir) (n : Int), firstR acc (rs ++ [(d, n)]) k = appRun (firstR acc rs k) d (imin n (leftR rs k)) := by
  induction rs with
  | nil => intro acc k d n; rfl
  | cons r rs ih => intro acc k d n; obtain ⟨d', m⟩ := r; exact ih _ _ d n
theorem leftR_snoc (rs : List Run) : ∀ (k : Int) (d : Dir) (n : Int), leftR (rs ++ [(d, n)]) k = leftR rs k - imin n (leftR rs k) := by
  induction rs with
  | nil => intro k d n; rfl
  | cons r rs ih => intro k d n; obtain ⟨d', m⟩ := r; exact ih _ d n
theorem scFirstSteps : FnScope ["runs", "number", "merged", "step", "length"] ["runs", "number"] (defScope sFirstSteps) := ⟨rfl, rfl, rfl, by decide +kernel, rfl, by decide +kernel, by decide +kernel⟩
include T in
theorem ok_first_steps : Cal P w K mg base 2 "first_steps" spFirst [] := by
  obtain ⟨fd, F⟩ := T.d_FirstSteps
  refine ⟨_, fd, ["runs", "number"], [], F.ok scFirstSteps (fun vs H Q E h => ?_) (fun cdv A outer s H vs Q E hr h => ⟨_, PSs.nox (pss_cons (ps_set (i := 2) scFirstSteps.nd rfl (by first | exact Or.inl rfl | exact Or.inr rfl) (pe_lst pa_nil))
      (pss_cons (ps_for PassesOwn.never rfl (pi_list (pv 0)) (pg_tup rfl (pgs_cons (pg_name (i := 3) scFirstSteps.nd rfl (by first | exact Or.inl rfl | exact Or.inr rfl)) (pgs_cons (pg_name (i := 4) scFirstSteps.nd rfl (by first | exact Or.inl rfl | exact Or.inr rfl)) pgs_nil))) (pss_cons (ps_expr (pe_c (ok_append_run T) hr (by decide) (pa_cons (pv 2) (pa_cons (pv 3) (pa_cons (pe_callB (call_min2 rfl) rfl T.f_min boot_min (pa_cons (pv 4) (pa_cons (pv 1) pa_nil))) pa_nil)))))
      (pss_one (ps_aug (i := 1) scFirstSteps.nd rfl (by first | exact Or.inl rfl | exact Or.inr rfl) (pe_callB (call_min2 rfl) rfl T.f_min boot_min (pa_cons (pv 4) (pa_cons (pv 1) pa_nil))) ip_sub))))
      (pss_one (ps_ret (pv 2))))), ?_⟩),
    T.g_first_steps, F.kp, F.bindsN (by walk_at "b"), .nil⟩
  · obtain ⟨v, p, l, rfl, _⟩ := h; rfl
  · obtain ⟨l, rs, k, rfl, ⟨xs, hl, hx⟩, hz, h⟩ := h
    refine ⟨l0, fun m hm => ?_⟩
    have s2 : Same H (upd H m (.lst [])) := same_upd hm
    refine ⟨_, rfl, _, rfl, ⟨_, SqL.of (s2 _ _ hl)⟩, ?_⟩
    refine for_list (xs := xs) (fun i σ H' => Same H H' ∧ IsRuns H' m (firstR [] (rs.take i) k) ∧ ∃ u v, σ = [some (.ref l), some (.int (leftR (rs.take i) k)), some (.ref m), u, v]) ⟨s2, ⟨[], upd_same, .nil⟩, _, _, rfl⟩ (fun i σ H' _ q => SqL.of (q.1 _ _ hl)) (fun i x σ H' hxi q => ?_) (fun σ H' q => ?_)
    · obtain ⟨s3, hm3, u, v, rfl⟩ := q
      obtain ⟨⟨d, n⟩, hr', hxr⟩ := hx.at_ hxi
      obtain ⟨a, rfl, ha⟩ := hxr.mono s3
      refine ⟨_, _, rfl, SqT.of ha, rfl, _, _, rfl, _, _, rfl, rfl, ?_⟩
      walk_at "rd"
      have e : rs.take (i + 1) = rs.take i ++ [(d, n)] := by rw [List.take_succ, hr']; rfl
      refine ⟨_, _, _, _, rfl, hm3, ?_, fun H4 s4 h4 => ?_⟩
      · have h1 := firstR_len (rs.take i) [] k
        have h2 : (rs.take i).length ≤ rs.length := List.length_take_le' _ _
        rw [List.length_nil] at h1
        omega
      · walk_at "rd"
        refine ⟨fun b o e => s4 b o (ne_none e hm) (s3 b o e), ?_, some (.str d.t), some (.int n), ?_⟩
        · rw [e, firstR_snoc]; exact h4
        · rw [e, leftR_snoc] <;> rfl
    · obtain ⟨s3, hm3, u, v, rfl⟩ := q
      rw [hx.len, List.take_length] at hm3
      exact ⟨_, rfl, h H' m s3 hm hm3⟩
def spStateAfter : Sp := fun vs H Q _ => ∃ (v : V) (p : P3) (l : Addr) (rs : List Run) (k : Int), vs = [v, .ref l, .int k] ∧ IsP H v p ∧ IsRuns H l rs ∧ (∀ r ∈ rs, 0 < r.2) ∧ rs.length < 5000 ∧ 0 ≤ k ∧ k ≤ totR rs ∧ okA p (firstR [] rs k) ∧
  ∀ (H' : Hp) (u : V), Same H H' → IsP H' u (afterR p (firstR [] rs k)) → Q u H'
theorem scStateAfter : FnScope ["state", "runs", "number"] ["state", "runs", "number"] (defScope sStateAfter) := ⟨rfl, rfl, rfl, by decide +kernel, rfl, by decide +kernel, by decide +kernel⟩
include T in
theorem ok_state_after : Cal P w K mg base 6 "state_after" spStateAfter [] := by
  obtain ⟨fd, F⟩ := T.d_StateAfter
  refine ⟨_, fd, ["state", "runs", "number"], [], F.ok scStateAfter (fun vs H Q E h => ?_) (fun cdv A outer s H vs Q E hr h => ⟨_, PSs.nox (pss_cons (ps_expr (pe_c (ok_check_state T) hr (by decide) (pa_cons (pv 0) pa_nil)))
      (pss_cons (ps_expr (pe_c (ok_check_runs T) hr (by decide) (pa_cons (pv 1) pa_nil)))
      (pss_cons (ps_if (PW.pt (pw_or (pt_not (pt_val (pe_c (ok_is_count T) hr (by decide) (pa_cons (pv 2) pa_nil)))) (pw_or1 (pt_cmp (pc_gt (pv 2) (pe_c (ok_total_steps T) hr (by decide) (pa_cons (pv 1) pa_nil))))))) pss_never pss_nil)
      (pss_one (ps_ret (pe_c (ok_after_runs T) hr (by decide) (pa_cons (pv 0) (pa_cons (pe_c (ok_first_steps T) hr (by decide) (pa_cons (pv 1) (pa_cons (pv 2) pa_nil))) pa_nil)))))))), ?_⟩),
    T.g_state_after, F.kp, F.bindsN (by walk_at "b"), .nil⟩
  · obtain ⟨v, p, l, rs, k, rfl, _⟩ := h; rfl
  · obtain ⟨v, p, l, rs, k, rfl, hP, hR, hp, hz, h0, h1, hA, h⟩ := h
    walk_at "rd"
    refine ⟨_, _, rfl, hP, fun H1 s1 => ?_⟩
    walk_at "rd"
    refine ⟨_, _, rfl, hR.mono s1, hp, fun H2 s2 => ?_⟩
    walk_at "rd"
    have e1 : decide ((0 : Int) ≤ k) = true := decide_eq_true h0
    rw [e1]
    walk_at "rd"
    refine ⟨_, _, rfl, hR.mono (s1.trans s2), hp, hz, fun H3 s3 => ?_⟩
    walk_at "rd"
    refine ite2 (fun z => ?_) fun _ => ?_
    · have := of_decide_eq_true z
      omega
    · walk_at "rd"
      refine ⟨_, _, _, rfl, hR.mono ((s1.trans s2).trans s3), hz, fun H4 l4 s4 _ h4 => ?_⟩
      have s5 := ((s1.trans s2).trans s3).trans s4
      exact ⟨_, _, _, _, rfl, hP.mono s5, h4, hA, fun H6 u s6 h6 => h H6 u (s5.trans s6) h6⟩
end
end Hs
end

/-! HsD4 -/
section
set_option Elab.async false
set_option linter.all false
set_option maxRecDepth 100000
set_option maxHeartbeats 4000000
namespace Hs
open PySem PySem.Spec PyProof.Rows L2
local macro_rules | `(tactic| walk_at "ix") => `(tactic| refine ⟨_, _, _, _, rfl, rfl, SqT.of (by assumption), (by first | exact at0 | exact at1 | exact at2 | exact at3), ?_⟩)
local macro_rules | `(tactic| walk_at "fl") => `(tactic| refine ⟨_, _, _, _, _, rfl, (by assumption), (by first | exact Tx.c_Band (by assumption) | exact Tx.c_Extents (by assumption) | exact Tx.c_Walker (by assumption)), (by first
  | exact Tx.n_Band_low_end (by assumption) | exact Tx.n_Band_high_end (by assumption) | exact Tx.n_Extents_width (by assumption) | exact Tx.n_Extents_climb (by assumption) | exact Tx.n_Extents_depth (by assumption) | exact Tx.n_Extents_base (by assumption) | exact Tx.n_Extents_limit (by assumption)
  | exact Tx.n_Walker_limits (by assumption) | exact Tx.n_Walker_own_players (by assumption) | exact Tx.n_Walker_own_observer (by assumption) | exact Tx.n_Walker_is_observed (by assumption) | exact Tx.n_Walker_first_state (by assumption) | exact Tx.n_Walker_situation (by assumption) | exact Tx.n_Walker_own_actions (by assumption) | exact Tx.n_Walker_earlier (by assumption)), rfl, ?_⟩)
local macro_rules | `(tactic| walk_at "r1") => `(tactic| first | refine ⟨_, rfl, ?_⟩ | refine ⟨_, _, rfl, rfl, ?_⟩ | refine ⟨_, _, rfl, ?_⟩ | walk_at "ix" | walk_at "fl")
local macro_rules | `(tactic| walk_at "rd") => `(tactic| repeat walk_at "r1")
local macro_rules | `(tactic| walk_at "b") => `(tactic| first | (exact fun _ _ _ _ _ _ us hl => match us, hl with | [_], _ => rfl) | (exact fun _ _ _ _ _ _ us hl => match us, hl with | [_, _], _ => rfl) | (exact fun _ _ _ _ _ _ us hl => match us, hl with | [_, _, _], _ => rfl) | (exact fun _ _ _ _ _ _ us hl => match us, hl with | [_, _, _, _], _ => rfl))
section
variable {P : Program} {w : World} {K : PySem.W.Frag} {mg : Str → Option Value} {base : Heap} (T : Tx K mg)
/-! ### Band -/
/-- a new instance's fields are set: all else is kept -/
def spBandInit (K : PySem.W.Frag) : Sp := fun vs H Q _ => ∃ (x dx : Addr) (b : Bnd), vs = [.ref x, vO b.lo, vO b.hi] ∧ H x = some (.ins (BC K) dx []) ∧ (∀ l h, b.lo = some l → b.hi = some h → l ≤ h) ∧
  ∀ H', SameX x H H' → H' x = some (.ins (BC K) dx [("low_end", vO b.lo), ("high_end", vO b.hi)]) → Q .non H'
theorem scBandInit : FnScope ["self", "low", "high", "end"] ["self", "low", "high"] (defScope sBandInit) := ⟨rfl, rfl, rfl, by decide +kernel, rfl, by decide +kernel, by decide +kernel⟩
include T in
theorem ok_Band : Mak P w K mg base 2 "Band" (BC K) (spBandInit K) [] := by
  obtain ⟨fd, F⟩ := T.d_BandInit
  refine ⟨_, fd, ["self", "low", "high"], [], T.k_Band, F.ok scBandInit (fun vs H Q E h => ?_) (fun cdv A outer s H vs Q E hr h => ⟨_, PSs.nox (pss_cons (ps_if (pt_not (pt_val (pe_callB (cr_all rfl) rfl T.f_all boot_all (pa_cons (pe_lc (own := [("end", 3)]) (g := gName 3) (tt := tYes) rfl scBandInit.nd (pi_tup (pe_tup (pa_cons (pv 1) (pa_cons (pv 2) pa_nil)))) (blkOk_by (own := [("end", 3)]) (N := ["self", "low", "high", "end"]) (sc := defScope sBandInit) (by decide +kernel)) (fun _ _ _ _ _ => pg_name (i := 3) scBandInit.nd rfl (by first | exact Or.inl rfl | exact Or.inr rfl)) (fun _ _ _ _ _ => pts_nil) (fun _ _ _ _ _ => pe_or (pe_cmp (pc_isN (pv 3))) (pe_one (pe_c (ok_is_integer T) hr (by decide) (pa_cons (pv 3) pa_nil))))) pa_nil)))) pss_never pss_nil)
      (pss_cons (ps_if (PW.pt (pw_and (pt_cmp (pc_notN (pv 1))) (pw_and (pt_cmp (pc_notN (pv 2))) (pw_and1 (pt_cmp (pc_gt (pv 1) (pv 2))))))) pss_never pss_nil)
      (pss_cons (ps_fld (pv 0) (pv 1) rfl)
      (pss_one (ps_fld (pv 0) (pv 2) rfl))))), ?_⟩),
    T.g_Band, ?_, .nil⟩
  · obtain ⟨x, dx, b, rfl, _⟩ := h; rfl
  · obtain ⟨x, dx, b, rfl, hx, hb, h⟩ := h
    walk_at "rd"
    refine ⟨l2, fun t ht => ?_⟩
    have s0 : Same H (upd H t (.tup [vO b.lo, vO b.hi])) := same_upd ht
    refine ⟨_, rfl, ⟨_, SqT.of upd_same⟩, fun D hD => ?_⟩
    have hD0 : H D = none := Same.free s0 hD
    have hne : t ≠ D := ne_none upd_same hD
    refine lc_tup (xs := [vO b.lo, vO b.hi]) (fun i H' => Same H H' ∧ H' t = some (.tup [vO b.lo, vO b.hi]) ∧ H' D = some (.lst (List.replicate i (.bl true)))) ⟨same_upd2 s0 hD, by rw [upd_ne hne, upd_same], upd_same⟩ (fun i H' _ q => SqT.of q.2.1) (fun i y H' hy q => ?_) fun H' q => ?_
    · obtain ⟨s1, ht1, hD1⟩ := q
      have ho : ∃ o : Option Int, y = vO o := by
        match i, hy with
        | 0, hy => exact ⟨b.lo, (Option.some.inj hy).symm⟩
        | 1, hy => exact ⟨b.hi, (Option.some.inj hy).symm⟩
        | n + 2, hy => simp at hy
      obtain ⟨o, rfl⟩ := ho
      have hl : i < 2 := by have := (List.getElem?_eq_some_iff.mp hy).1; simpa using this
      have fin : (∃ acc, H' D = some (.lst acc) ∧ acc.length < sizeLine ∧ (Same H (upd H' D (.lst (acc ++ [.bl true]))) ∧ upd H' D (.lst (acc ++ [.bl true])) t = some (.tup [vO b.lo, vO b.hi]) ∧ upd H' D (.lst (acc ++ [.bl true])) D = some (.lst (List.replicate (i + 1) (.bl true))))) := by
        refine ⟨_, hD1, ?_, same_at hD0 s1, by rw [upd_ne hne]; exact ht1, ?_⟩
        · rw [List.length_replicate, sizeLine_eq]; omega
        · rw [upd_same, ← List.replicate_succ']
      refine ⟨rfl, _, rfl, _, rfl, ?_⟩
      cases o with
      | none => exact fin
      | some n =>
        walk_at "rd"
        exact fin
    · obtain ⟨s1, ht1, hD1⟩ := q
      refine ⟨_, [true, true], rfl, SqL.of hD1, ?_⟩
      have hx1 := s1 _ _ hx
      have fin2 : tSeq (sFld K (tVar 0) (tVar 1) "low_end") (sFld K (tVar 0) (tVar 2) "high_end") { nx := fun _ H' => Q .non H', rt := Q } [some (.ref x), some (vO b.lo), some (vO b.hi), none] H' := by
        refine ⟨_, rfl, _, rfl, _, _, _, _, rfl, hx1, T.c_Band, T.n_Band_low_end, by decide, ?_⟩
        refine ⟨_, rfl, _, rfl, _, _, _, _, rfl, upd_same, T.c_Band, T.n_Band_high_end, by show 1 < 1000; decide, ?_⟩
        exact h _ (((SameX.of s1).trans SameX.upd).trans SameX.upd) upd_same
      obtain ⟨lo, hi⟩ := b
      refine ⟨_, rfl, ?_⟩
      cases lo with
      | none =>
        iterate 2 walk_at "r1"
        exact fin2
      | some l =>
        cases hi with
        | none =>
          iterate 4 walk_at "r1"
          exact fin2
        | some k =>
          iterate 8 walk_at "r1"
          refine ite2 (fun z => ?_) fun _ => fin2
          have z' := of_decide_eq_true z
          have := hb l k rfl rfl
          omega
  · obtain ⟨ds, rd, b⟩ := F.binds1 3 2 (ps := ["self", "low", "high"]) (by simp) (by rfl) fun T kV doc pm an cdv ct us its hl h2 => match us, its, hl, h2 with | [_, _, _], [_, _], _, _ => ⟨_, rfl, rfl⟩
    cases rd
    exact b
def spIncl (K : PySem.W.Frag) : Sp := fun vs H Q _ => ∃ (v : V) (b : Bnd) (n : Int), vs = [v, .int n] ∧ IsB K H v b ∧ Q (.bl (b.has n)) H
theorem scBandIncludes : FnScope ["self", "height"] ["self", "height"] (defScope sBandIncludes) := ⟨rfl, rfl, rfl, by decide +kernel, rfl, by decide +kernel, by decide +kernel⟩
include T in
theorem ok_Band_includes : Met P w K mg base 1 (BC K) "includes" (spIncl K) [] := by
  obtain ⟨fd, F⟩ := T.d_BandIncludes
  refine ⟨_, fd, ["self", "height"], [], T.c_Band, T.m_Band_includes, F.ok scBandIncludes (fun vs H Q E h => ?_) (fun cdv A outer s H vs Q E hr h => ⟨_, PSs.nox (pss_one (ps_ret (pe_and (pe_or (pe_cmp (pc_isN (pe_fld (pv 0) rfl))) (pe_one (pe_cmp (pc_ge (pv 1) (pe_fld (pv 0) rfl))))) (pe_one (pe_or (pe_cmp (pc_isN (pe_fld (pv 0) rfl))) (pe_one (pe_cmp (pc_le (pv 1) (pe_fld (pv 0) rfl))))))))), ?_⟩),
    F.bindsN (by walk_at "b"), .nil⟩
  · obtain ⟨x, dx, b, rfl, _⟩ := h; rfl
  · obtain ⟨v, ⟨lo, hi⟩, n, rfl, ⟨a, dx, rfl, ha⟩, h⟩ := h
    cases lo with
    | none =>
      cases hi with
      | none =>
        walk_at "rd"
        exact h
      | some k =>
        walk_at "rd"
        exact h
    | some l =>
      have key : ∀ hi : Option Int, (⟨some l, hi⟩ : Bnd).has n = (decide (l ≤ n) && (⟨none, hi⟩ : Bnd).has n) := fun hi => by unfold Bnd.has; simp
      rw [key] at h
      have fF : ¬ (decide (l ≤ n) = true) → Q (.bl false) H := fun z => by
        rw [Bool.eq_false_iff.mpr z, Bool.false_and] at h
        exact h
      have fT : decide (l ≤ n) = true → Q (.bl ((⟨none, hi⟩ : Bnd).has n)) H := fun z => by
        rw [z, Bool.true_and] at h
        exact h
      cases hi with
      | none =>
        walk_at "rd"
        refine ite2 (fun z => ?_) fun z => ?_
        · walk_at "rd"
          exact fT z
        · exact fF z
      | some k =>
        walk_at "rd"
        refine ite2 (fun z => ?_) fun z => ?_
        · walk_at "rd"
          exact fT z
        · exact fF z
def spLowV (K : PySem.W.Frag) : Sp := fun vs H Q _ => ∃ (v : V) (b : Bnd), vs = [v] ∧ IsB K H v b ∧ Q (vO b.lo) H
theorem scBandLow : FnScope ["self"] ["self"] (defScope sBandLow) := ⟨rfl, rfl, rfl, by decide +kernel, rfl, by decide +kernel, by decide +kernel⟩
include T in
theorem ok_Band_low : Met P w K mg base 1 (BC K) "low" (spLowV K) [] := by
  obtain ⟨fd, F⟩ := T.d_BandLow
  refine ⟨_, fd, ["self"], [], T.c_Band, T.m_Band_low, F.ok scBandLow (fun vs H Q E h => ?_) (fun cdv A outer s H vs Q E hr h => ⟨_, PSs.nox (pss_one (ps_ret (pe_fld (pv 0) rfl))), ?_⟩),
    F.bindsN (by walk_at "b"), .nil⟩
  · obtain ⟨x, b, rfl, _⟩ := h; rfl
  · obtain ⟨v, b, rfl, ⟨a, dx, rfl, ha⟩, h⟩ := h
    walk_at "rd"
    exact h
def spHighV (K : PySem.W.Frag) : Sp := fun vs H Q _ => ∃ (v : V) (b : Bnd), vs = [v] ∧ IsB K H v b ∧ Q (vO b.hi) H
theorem scBandHigh : FnScope ["self"] ["self"] (defScope sBandHigh) := ⟨rfl, rfl, rfl, by decide +kernel, rfl, by decide +kernel, by decide +kernel⟩
include T in
theorem ok_Band_high : Met P w K mg base 1 (BC K) "high" (spHighV K) [] := by
  obtain ⟨fd, F⟩ := T.d_BandHigh
  refine ⟨_, fd, ["self"], [], T.c_Band, T.m_Band_high, F.ok scBandHigh (fun vs H Q E h => ?_) (fun cdv A outer s H vs Q E hr h => ⟨_, PSs.nox (pss_one (ps_ret (pe_fld (pv 0) rfl))), ?_⟩),
    F.bindsN (by walk_at "b"), .nil⟩
  · obtain ⟨x, b, rfl, _⟩ := h; rfl
  · obtain ⟨v, b, rfl, ⟨a, dx, rfl, ha⟩, h⟩ := h
    walk_at "rd"
    exact h
def IsRm (H : Hp) (v : V) (a c : Option Int) : Prop := ∃ t, v = .ref t ∧ H t = some (.tup [vO a, vO c])
theorem IsRm.mono {H H' : Hp} {v : V} {a c : Option Int} (h : IsRm H v a c) (s : Same H H') : IsRm H' v a c := let ⟨t, e, q⟩ := h; ⟨t, e, s _ _ q⟩
def spRoom (K : PySem.W.Frag) : Sp := fun vs H Q _ => ∃ (v : V) (b : Bnd) (n : Int), vs = [v, .int n] ∧ IsB K H v b ∧ b.has n = true ∧ ∀ (H' : Hp) (r : V), Same H H' → IsRm H' r (below b n) (above b n) → Q r H'
theorem scBandRoom : FnScope ["self", "height", "below"] ["self", "height"] (defScope sBandRoom) := ⟨rfl, rfl, rfl, by decide +kernel, rfl, by decide +kernel, by decide +kernel⟩
include T in
theorem ok_Band_room : Met P w K mg base 3 (BC K) "room" (spRoom K) [] := by
  obtain ⟨fd, F⟩ := T.d_BandRoom
  refine ⟨_, fd, ["self", "height"], [], T.c_Band, T.m_Band_room, F.ok scBandRoom (fun vs H Q E h => ?_) (fun cdv A outer s H vs Q E hr h => ⟨_, PSs.nox (pss_cons (ps_expr (pe_c (ok_check_integer T).2 hr (by decide) (pa_cons (pv 1) pa_nil)))
      (pss_cons (ps_if (pt_not (pt_val (pe_mt (ok_Band_includes T) hr (by decide) (pv 0) (pa_cons (pv 1) pa_nil)))) pss_never pss_nil)
      (pss_cons (ps_set (i := 2) scBandRoom.nd rfl (by first | exact Or.inl rfl | exact Or.inr rfl) (pe_ifExp (pt_cmp (pc_isN (pe_fld (pv 0) rfl))) pe_non (pe_op op_sub (pv 1) (pe_fld (pv 0) rfl))))
      (pss_one (ps_ret (pe_tup (pa_cons (pv 2) (pa_cons (pe_ifExp (pt_cmp (pc_isN (pe_fld (pv 0) rfl))) pe_non (pe_op op_sub (pe_fld (pv 0) rfl) (pv 1))) pa_nil)))))))), ?_⟩),
    F.bindsN (by walk_at "b"), .nil⟩
  · obtain ⟨x, b, n, rfl, _⟩ := h; rfl
  · obtain ⟨v, ⟨lo, hi⟩, n, rfl, ⟨a, dx, rfl, ha⟩, hn, h⟩ := h
    walk_at "rd"
    refine ⟨.inl rfl, ?_⟩
    walk_at "rd"
    refine ⟨_, _, _, rfl, ha, rfl, ?_⟩
    walk_at "rd"
    refine ⟨_, ⟨lo, hi⟩, _, rfl, ⟨a, dx, rfl, ha⟩, ?_⟩
    rw [hn]
    walk_at "rd"
    cases lo with
    | none =>
      cases hi with
      | none =>
        walk_at "rd"
        exact ⟨l2, fun t ht => h _ _ (same_upd ht) ⟨t, rfl, upd_same⟩⟩
      | some k =>
        walk_at "rd"
        exact ⟨l2, fun t ht => h _ _ (same_upd ht) ⟨t, rfl, upd_same⟩⟩
    | some l =>
      cases hi with
      | none =>
        walk_at "rd"
        exact ⟨l2, fun t ht => h _ _ (same_upd ht) ⟨t, rfl, upd_same⟩⟩
      | some k =>
        walk_at "rd"
        exact ⟨l2, fun t ht => h _ _ (same_upd ht) ⟨t, rfl, upd_same⟩⟩
/-! ### counts -/
def spCap : Sp := fun vs H Q _ => ∃ (n : Int) (l : Option Int), vs = [.int n, vO l] ∧ Q (.int (cap n l)) H
theorem scCapped : FnScope ["number", "limit"] ["number", "limit"] (defScope sCapped) := ⟨rfl, rfl, rfl, by decide +kernel, rfl, by decide +kernel, by decide +kernel⟩
include T in
theorem ok_capped : Cal P w K mg base 1 "capped" spCap [] := by
  obtain ⟨fd, F⟩ := T.d_Capped
  refine ⟨_, fd, ["number", "limit"], [], F.ok scCapped (fun vs H Q E h => ?_) (fun cdv A outer s H vs Q E hr h => ⟨_, PSs.nox (pss_one (ps_ret (pe_ifExp (pt_cmp (pc_isN (pv 1))) (pv 0) (pe_callB (call_min2 rfl) rfl T.f_min boot_min (pa_cons (pv 0) (pa_cons (pv 1) pa_nil)))))), ?_⟩),
    T.g_capped, F.kp, F.bindsN (by walk_at "b"), .nil⟩
  · obtain ⟨x, b, rfl, _⟩ := h; rfl
  · obtain ⟨n, l, rfl, h⟩ := h
    cases l with
    | none => walk_at "rd"; exact h
    | some l => walk_at "rd"; exact h
def spDep : Sp := fun vs H Q _ => ∃ (v : V) (a c : Option Int), vs = [v] ∧ IsRm H v a c ∧ Q (vO (dep a c)) H
theorem scDepthOf : FnScope ["room", "below", "above"] ["room"] (defScope sDepthOf) := ⟨rfl, rfl, rfl, by decide +kernel, rfl, by decide +kernel, by decide +kernel⟩
include T in
theorem ok_depth_of : Cal P w K mg base 1 "depth_of" spDep [] := by
  obtain ⟨fd, F⟩ := T.d_DepthOf
  refine ⟨_, fd, ["room"], [], F.ok scDepthOf (fun vs H Q E h => ?_) (fun cdv A outer s H vs Q E hr h => ⟨_, PSs.nox (pss_cons (ps_asg (pv 0) (pg_tup rfl (pgs_cons (pg_name (i := 1) scDepthOf.nd rfl (by first | exact Or.inl rfl | exact Or.inr rfl)) (pgs_cons (pg_name (i := 2) scDepthOf.nd rfl (by first | exact Or.inl rfl | exact Or.inr rfl)) pgs_nil))))
      (pss_one (ps_ret (pe_ifExp (PW.pt (pw_or (pt_cmp (pc_isN (pv 1))) (pw_or1 (pt_cmp (pc_isN (pv 2)))))) pe_non (pe_op op_add (pv 1) (pv 2)))))), ?_⟩),
    T.g_depth_of, F.kp, F.bindsN (by walk_at "b"), .nil⟩
  · obtain ⟨x, a, c, rfl, _⟩ := h; rfl
  · obtain ⟨v, a, c, rfl, ⟨t, rfl, ht⟩, h⟩ := h
    walk_at "rd"
    refine ⟨_, _, rfl, SqT.of ht, rfl, _, _, rfl, _, _, rfl, rfl, ?_⟩
    cases a with
    | none => walk_at "rd"; exact h
    | some a =>
      cases c with
      | none => walk_at "rd"; exact h
      | some c => walk_at "rd"; exact h
end
end Hs
end

/-! HsD5 -/
section
set_option Elab.async false
set_option linter.all false
set_option maxRecDepth 100000
set_option maxHeartbeats 4000000
namespace Hs
open PySem PySem.Spec PyProof.Rows L2
local macro_rules | `(tactic| walk_at "ix") => `(tactic| refine ⟨_, _, _, _, rfl, rfl, SqT.of (by assumption), (by first | exact at0 | exact at1 | exact at2 | exact at3), ?_⟩)
local macro_rules | `(tactic| walk_at "fl") => `(tactic| refine ⟨_, _, _, _, _, rfl, (by assumption), (by first | exact Tx.c_Band (by assumption) | exact Tx.c_Extents (by assumption) | exact Tx.c_Walker (by assumption)), (by first
  | exact Tx.n_Band_low_end (by assumption) | exact Tx.n_Band_high_end (by assumption) | exact Tx.n_Extents_width (by assumption) | exact Tx.n_Extents_climb (by assumption) | exact Tx.n_Extents_depth (by assumption) | exact Tx.n_Extents_base (by assumption) | exact Tx.n_Extents_limit (by assumption)
  | exact Tx.n_Walker_limits (by assumption) | exact Tx.n_Walker_own_players (by assumption) | exact Tx.n_Walker_own_observer (by assumption) | exact Tx.n_Walker_is_observed (by assumption) | exact Tx.n_Walker_first_state (by assumption) | exact Tx.n_Walker_situation (by assumption) | exact Tx.n_Walker_own_actions (by assumption) | exact Tx.n_Walker_earlier (by assumption)), rfl, ?_⟩)
local macro_rules | `(tactic| walk_at "r1") => `(tactic| first | refine ⟨_, rfl, ?_⟩ | refine ⟨_, _, rfl, rfl, ?_⟩ | refine ⟨_, _, rfl, ?_⟩ | walk_at "ix" | walk_at "fl")
local macro_rules | `(tactic| walk_at "rd") => `(tactic| repeat walk_at "r1")
local macro_rules | `(tactic| walk_at "b") => `(tactic| first | (exact fun _ _ _ _ _ _ us hl => match us, hl with | [_], _ => rfl) | (exact fun _ _ _ _ _ _ us hl => match us, hl with | [_, _], _ => rfl) | (exact fun _ _ _ _ _ _ us hl => match us, hl with | [_, _, _], _ => rfl) | (exact fun _ _ _ _ _ _ us hl => match us, hl with | [_, _, _, _], _ => rfl))
section
variable {P : Program} {w : World} {K : PySem.W.Frag} {mg : Str → Option Value} {base : Heap} (T : Tx K mg)
/-! ### the own exceptions' __init__, and their making -/
theorem scUnknownNameInit : FnScope ["self", "name"] ["self", "name"] (defScope sUnknownNameInit) := ⟨rfl, rfl, rfl, by decide +kernel, rfl, by decide +kernel, by decide +kernel⟩
theorem scOutsideBandInit : FnScope ["self", "height"] ["self", "height"] (defScope sOutsideBandInit) := ⟨rfl, rfl, rfl, by decide +kernel, rfl, by decide +kernel, by decide +kernel⟩
theorem scBudgetExceededInit : FnScope ["self", "remaining"] ["self", "remaining"] (defScope sBudgetExceededInit) := ⟨rfl, rfl, rfl, by decide +kernel, rfl, by decide +kernel, by decide +kernel⟩
include T in
theorem ok_UnknownName_init : ∃ fd, FnOk P w K mg base (L2.CX P w) 1 (He.ma K (He.ga K "UnknownName") "__init__") fd ["self", "name"] (spXi (He.ga K "UnknownName") "name") ∧ Binds K fd ["self", "name"] [] := by
  obtain ⟨fd, F⟩ := T.d_UnknownNameInit
  refine ⟨fd, F.ok scUnknownNameInit (fun vs H Q E h => ?_) (fun cdv A outer s H vs Q E hr h => ⟨_, PSs.nox (pss_one (ps_osT (x_UnknownName T) (pv 0) (pv 1))), ?_⟩), F.bindsN (by walk_at "b")⟩
  · obtain ⟨a, y, rfl, _⟩ := h; rfl
  · obtain ⟨a, y, rfl, ha, h⟩ := h
    exact ⟨_, rfl, _, rfl, _, rfl, ha, h⟩
theorem pmk_UnknownName {X : Cx} (T : Tx X.K X.mg) {j : Nat} {e : Expr} {ta : TA} {p pos : Pos} (hr : Room j X.A) (hj : 2 ≤ j) (ha : PA X [e] ta) (hg : Gl X "UnknownName" := by rfl)
    (hdb : (("UnknownName" : Str) == ("__debug__" : Str)) = false := by decide) (he : starEach [e] X.env = (false, eval e X.env) :: starEach [] X.env := by rfl) (hpl : (backTo pos (starEach [] X.env)).any (·.1) = false := by rfl) :
    PMk X (.Call (.Name "UnknownName" p) [e] [] pos) (tMkT (He.ga X.K "UnknownName") "name" ta) := by
  obtain ⟨fd, F1, b⟩ := ok_UnknownName_init (P := X.prog) (w := X.w) (base := X.base) T
  exact pmk_T (x_UnknownName T) T.m_UnknownName_init.at_ T.m_UnknownName_init.fn F1 (hr.mono hj) b T.g_UnknownName ha hg hdb he hpl
include T in
theorem ok_OutsideBand_init : ∃ fd, FnOk P w K mg base (L2.CX P w) 1 (He.ma K (He.ga K "OutsideBand") "__init__") fd ["self", "height"] (spXi (He.ga K "OutsideBand") "height") ∧ Binds K fd ["self", "height"] [] := by
  obtain ⟨fd, F⟩ := T.d_OutsideBandInit
  refine ⟨fd, F.ok scOutsideBandInit (fun vs H Q E h => ?_) (fun cdv A outer s H vs Q E hr h => ⟨_, PSs.nox (pss_one (ps_osT (x_OutsideBand T) (pv 0) (pv 1))), ?_⟩), F.bindsN (by walk_at "b")⟩
  · obtain ⟨a, y, rfl, _⟩ := h; rfl
  · obtain ⟨a, y, rfl, ha, h⟩ := h
    exact ⟨_, rfl, _, rfl, _, rfl, ha, h⟩
theorem pmk_OutsideBand {X : Cx} (T : Tx X.K X.mg) {j : Nat} {e : Expr} {ta : TA} {p pos : Pos} (hr : Room j X.A) (hj : 2 ≤ j) (ha : PA X [e] ta) (hg : Gl X "OutsideBand" := by rfl)
    (hdb : (("OutsideBand" : Str) == ("__debug__" : Str)) = false := by decide) (he : starEach [e] X.env = (false, eval e X.env) :: starEach [] X.env := by rfl) (hpl : (backTo pos (starEach [] X.env)).any (·.1) = false := by rfl) :
    PMk X (.Call (.Name "OutsideBand" p) [e] [] pos) (tMkT (He.ga X.K "OutsideBand") "height" ta) := by
  obtain ⟨fd, F1, b⟩ := ok_OutsideBand_init (P := X.prog) (w := X.w) (base := X.base) T
  exact pmk_T (x_OutsideBand T) T.m_OutsideBand_init.at_ T.m_OutsideBand_init.fn F1 (hr.mono hj) b T.g_OutsideBand ha hg hdb he hpl
include T in
theorem ok_BudgetExceeded_init : ∃ fd, FnOk P w K mg base (L2.CX P w) 1 (He.ma K (He.ga K "BudgetExceeded") "__init__") fd ["self", "remaining"] (spXi (He.ga K "BudgetExceeded") "remaining") ∧ Binds K fd ["self", "remaining"] [] := by
  obtain ⟨fd, F⟩ := T.d_BudgetExceededInit
  refine ⟨fd, F.ok scBudgetExceededInit (fun vs H Q E h => ?_) (fun cdv A outer s H vs Q E hr h => ⟨_, PSs.nox (pss_one (ps_osT (x_BudgetExceeded T) (pv 0) (pv 1))), ?_⟩), F.bindsN (by walk_at "b")⟩
  · obtain ⟨a, y, rfl, _⟩ := h; rfl
  · obtain ⟨a, y, rfl, ha, h⟩ := h
    exact ⟨_, rfl, _, rfl, _, rfl, ha, h⟩
theorem pmk_BudgetExceeded {X : Cx} (T : Tx X.K X.mg) {j : Nat} {e : Expr} {ta : TA} {p pos : Pos} (hr : Room j X.A) (hj : 2 ≤ j) (ha : PA X [e] ta) (hg : Gl X "BudgetExceeded" := by rfl)
    (hdb : (("BudgetExceeded" : Str) == ("__debug__" : Str)) = false := by decide) (he : starEach [e] X.env = (false, eval e X.env) :: starEach [] X.env := by rfl) (hpl : (backTo pos (starEach [] X.env)).any (·.1) = false := by rfl) :
    PMk X (.Call (.Name "BudgetExceeded" p) [e] [] pos) (tMkT (He.ga X.K "BudgetExceeded") "remaining" ta) := by
  obtain ⟨fd, F1, b⟩ := ok_BudgetExceeded_init (P := X.prog) (w := X.w) (base := X.base) T
  exact pmk_T (x_BudgetExceeded T) T.m_BudgetExceeded_init.at_ T.m_BudgetExceeded_init.fn F1 (hr.mono hj) b T.g_BudgetExceeded ha hg hdb he hpl
theorem pmk_NothingToUndo {X : Cx} (T : Tx X.K X.mg) {m : Str} {j : Nat} {p p2 pos : Pos} (hg : Gl X "NothingToUndo" := by rfl) : PMk X (.Call (.Name "NothingToUndo" p) [.Constant (.str m) j p2] [] pos) (fun _ H Q => Q (.ref (He.ga X.K "NothingToUndo")) none H) := by
  have h := (ex_unp T).2.2.2.1
  unfold excPlain at h
  simp only [Bool.and_eq_true, decide_eq_true_eq] at h
  obtain ⟨h1, h2, h3, h4⟩ := h
  exact pmk_own F.excBase_LookupError h1 T.g_NothingToUndo h2 (raises_own h3 h4) hg
/-! ### to_band, check_height -/
def spToBand (K : PySem.W.Frag) : Sp := fun vs H Q _ => ∃ (v : V) (b : Bnd), vs = [v] ∧ IsB K H v b ∧ Q v H
theorem scToBand : FnScope ["value"] ["value"] (defScope sToBand) := ⟨rfl, rfl, rfl, by decide +kernel, rfl, by decide +kernel, by decide +kernel⟩
theorem band_ty (T : Tx K mg) {H : Hp} {a dx : Addr} {fs : List (Str × V)} (ha : H a = some (.ins (BC K) dx fs)) : TyX K H (.ref a) (.ref (BC K)) :=
  let ⟨_, _, _, _, _, h6, h7, h8, h9, h10, _⟩ := ex_unp T
  .base (.ins ha T.c_Band h7 h8 h9 h10)
include T in
theorem ok_to_band : Cal P w K mg base 1 "to_band" (spToBand K) [] := by
  obtain ⟨fd, F⟩ := T.d_ToBand
  refine ⟨_, fd, ["value"], [], F.ok scToBand (fun vs H Q E h => ?_) (fun cdv A outer s H vs Q E hr h => ⟨_, PSs.nox (pss_cons (ps_if (pt_cmp (pc_isN (pv 0))) pss_never pss_nil)
      (pss_cons (ps_if (pt_not (pt_val (pe_callB call_isi rfl T.f_isinstance boot_isinstance (pa_cons (pv 0) (pa_cons (pe_glob (v := .ref (He.ga K "Band")) rfl T.g_Band rfl) pa_nil))))) pss_never pss_nil)
      (pss_one (ps_ret (pv 0))))), ?_⟩),
    T.g_to_band, F.kp, F.bindsN (by walk_at "b"), .nil⟩
  · obtain ⟨v, b, rfl, _⟩ := h; rfl
  · obtain ⟨v, b, rfl, ⟨a, dx, rfl, ha⟩, h⟩ := h
    walk_at "rd"
    refine ⟨_, _, _, _, _, rfl, .own _, band_ty T ha, (ex_unp T).2.2.2.2.2.1, ?_⟩
    walk_at "rd"
    exact h
def spChkH (K : PySem.W.Frag) : Sp := fun vs H Q E => ∃ (n : Int) (v : V) (b : Bnd), vs = [.int n, v] ∧ IsB K H v b ∧ (b.has n = true → Q .non H) ∧ (b.has n = false → ∀ d, H d = none → E (.ref (He.ga K "OutsideBand")) (some d) (upd H d (.xd [("height", .int n)])))
theorem scCheckHeight : FnScope ["height", "band"] ["height", "band"] (defScope sCheckHeight) := ⟨rfl, rfl, rfl, by decide +kernel, rfl, by decide +kernel, by decide +kernel⟩
include T in
theorem ok_check_height : Cal P w K mg base 3 "check_height" (spChkH K) [] := by
  obtain ⟨fd, F⟩ := T.d_CheckHeight
  refine ⟨_, fd, ["height", "band"], [], F.ok scCheckHeight (fun vs H Q E h => ?_) (fun cdv A outer s H vs Q E hr h => ⟨_, pss_one (ps_if (pt_not (pt_val (pe_mt (ok_Band_includes T) hr (by decide) (pv 1) (pa_cons (pv 0) pa_nil)))) (pss_one (ps_raise rfl (takes_of rfl rfl rfl rfl) (pmk_OutsideBand T hr (by decide) (pa_cons (pv 0) pa_nil)))) pss_nil), ?_⟩),
    T.g_check_height, F.kp, F.bindsN (by walk_at "b"), .nil⟩
  · obtain ⟨n, v, b, rfl, _⟩ := h; rfl
  · obtain ⟨n, v, b, rfl, ⟨a, dx, rfl, ha⟩, h1, h2⟩ := h
    walk_at "rd"
    refine ⟨_, _, _, rfl, ha, rfl, _, rfl, _, b, _, rfl, ⟨a, dx, rfl, ha⟩, _, rfl, ?_⟩
    cases hb : b.has n with
    | true => exact h1 hb
    | false =>
      refine ⟨_, rfl, _, rfl, fun d hd => h2 hb d hd⟩
end
end Hs
end

/-! HsD6 -/
section
set_option Elab.async false
set_option linter.all false
set_option maxRecDepth 100000
set_option maxHeartbeats 4000000
namespace Hs
open PySem PySem.Spec PyProof.Rows L2
local macro_rules | `(tactic| walk_at "ix") => `(tactic| refine ⟨_, _, _, _, rfl, rfl, SqT.of (by assumption), (by first | exact at0 | exact at1 | exact at2 | exact at3), ?_⟩)
local macro_rules | `(tactic| walk_at "fl") => `(tactic| refine ⟨_, _, _, _, _, rfl, (by assumption), (by first | exact Tx.c_Band (by assumption) | exact Tx.c_Extents (by assumption) | exact Tx.c_Walker (by assumption)), (by first
  | exact Tx.n_Band_low_end (by assumption) | exact Tx.n_Band_high_end (by assumption) | exact Tx.n_Extents_width (by assumption) | exact Tx.n_Extents_climb (by assumption) | exact Tx.n_Extents_depth (by assumption) | exact Tx.n_Extents_base (by assumption) | exact Tx.n_Extents_limit (by assumption)
  | exact Tx.n_Walker_limits (by assumption) | exact Tx.n_Walker_own_players (by assumption) | exact Tx.n_Walker_own_observer (by assumption) | exact Tx.n_Walker_is_observed (by assumption) | exact Tx.n_Walker_first_state (by assumption) | exact Tx.n_Walker_situation (by assumption) | exact Tx.n_Walker_own_actions (by assumption) | exact Tx.n_Walker_earlier (by assumption)), rfl, ?_⟩)
local macro_rules | `(tactic| walk_at "r1") => `(tactic| first | refine ⟨_, rfl, ?_⟩ | refine ⟨_, _, rfl, rfl, ?_⟩ | refine ⟨_, _, rfl, ?_⟩ | walk_at "ix" | walk_at "fl")
local macro_rules | `(tactic| walk_at "rd") => `(tactic| repeat walk_at "r1")
local macro_rules | `(tactic| walk_at "b") => `(tactic| first | (exact fun _ _ _ _ _ _ us hl => match us, hl with | [_], _ => rfl) | (exact fun _ _ _ _ _ _ us hl => match us, hl with | [_, _], _ => rfl) | (exact fun _ _ _ _ _ _ us hl => match us, hl with | [_, _, _], _ => rfl) | (exact fun _ _ _ _ _ _ us hl => match us, hl with | [_, _, _, _], _ => rfl))
section
variable {P : Program} {w : World} {K : PySem.W.Frag} {mg : Str → Option Value} {base : Heap} (T : Tx K mg)
set_option exponentiation.threshold 2000
/-! ### Extents -/
def IsE (K : PySem.W.Frag) (H : Hp) (v : V) (e : Ext) : Prop := ∃ a dx, v = .ref a ∧ H a = some (.ins (EC K) dx (eFs e))
theorem IsE.mono {K : PySem.W.Frag} {H H' : Hp} {v : V} {e : Ext} (h : IsE K H v e) (s : Same H H') : IsE K H' v e := let ⟨a, dx, e1, q⟩ := h; ⟨a, dx, e1, s _ _ q⟩
def spExtInit (K : PySem.W.Frag) : Sp := fun vs H Q _ => ∃ (x dx : Addr) (X Y S : Int) (r : V) (a c : Option Int), vs = [.ref x, .int X, .int Y, r, .int S] ∧ H x = some (.ins (EC K) dx []) ∧ IsRm H r a c ∧
  ∀ H', SameX x H H' → H' x = some (.ins (EC K) dx (eFs (exOf X Y S a c))) → Q .non H'
theorem scExtentsInit : FnScope ["self", "x", "h", "room", "sign"] ["self", "x", "h", "room", "sign"] (defScope sExtentsInit) := ⟨rfl, rfl, rfl, by decide +kernel, rfl, by decide +kernel, by decide +kernel⟩
include T in
theorem ok_Extents : Mak P w K mg base 2 "Extents" (EC K) (spExtInit K) [] := by
  obtain ⟨fd, F⟩ := T.d_ExtentsInit
  refine ⟨_, fd, ["self", "x", "h", "room", "sign"], [], T.k_Extents, F.ok scExtentsInit (fun vs H Q E h => ?_) (fun cdv A outer s H vs Q E hr h => ⟨_, PSs.nox (pss_cons (ps_fld (pv 0) (pe_callB call_abs rfl T.f_abs boot_abs (pa_cons (pv 1) pa_nil)) rfl)
      (pss_cons (ps_fld (pv 0) (pe_callB call_abs rfl T.f_abs boot_abs (pa_cons (pv 2) pa_nil)) rfl)
      (pss_cons (ps_fld (pv 0) (pe_c (ok_depth_of T) hr (by decide) (pa_cons (pv 3) pa_nil)) rfl)
      (pss_one (ps_if (pt_cmpR op_eq (pe_cmp (pc_ge (pv 4) pe_int)) (pe_cmp (pc_ge (pv 1) pe_int)) (nomark _)) (pss_one (ps_asg (pe_tup (pa_cons (pe_callB (call_max2 rfl) rfl T.f_max boot_max (pa_cons (pv 2) (pa_cons pe_int pa_nil))) (pa_cons (pe_ix ix_tup (pv 3) pe_int (fun _ _ => rfl)) pa_nil))) (pg_tup rfl (pgs_cons (pg_fld (pv 0)) (pgs_cons (pg_fld (pv 0)) pgs_nil))))) (pss_one (ps_asg (pe_tup (pa_cons (pe_callB (call_max2 rfl) rfl T.f_max boot_max (pa_cons (pe_un un_neg (pv 2)) (pa_cons pe_int pa_nil))) (pa_cons (pe_ix ix_tup (pv 3) pe_int (fun _ _ => rfl)) pa_nil))) (pg_tup rfl (pgs_cons (pg_fld (pv 0)) (pgs_cons (pg_fld (pv 0)) pgs_nil)))))))))), ?_⟩),
    T.g_Extents, F.bindsN (fun _ _ _ _ _ _ us hl => match us, hl with | [_, _, _, _, _], _ => rfl), .nil⟩
  · obtain ⟨x, dx, X, Y, S, r, a, c, rfl, _⟩ := h; rfl
  · obtain ⟨x, dx, X, Y, S, r, a, c, rfl, hx, ⟨t, rfl, ht⟩, h⟩ := h
    have ntx : t ≠ x := fun z => by rw [z, hx] at ht; cases ht
    iterate 3 walk_at "r1"
    refine ⟨_, _, _, _, rfl, hx, T.c_Extents, T.n_Extents_width, by show 0 < 1000; decide, ?_⟩
    iterate 3 walk_at "r1"
    refine ⟨_, _, _, _, rfl, upd_same, T.c_Extents, T.n_Extents_climb, by show 1 < 1000; decide, ?_⟩
    refine ⟨_, rfl, _, a, c, rfl, ⟨t, rfl, by rw [upd_ne ntx, upd_ne ntx]; exact ht⟩, ?_⟩
    iterate 1 walk_at "r1"
    refine ⟨_, _, _, _, rfl, upd_same, T.c_Extents, T.n_Extents_depth, by show 2 < 1000; decide, ?_⟩
    walk_at "rd"
    refine ⟨rfl, _, rfl, ?_⟩
    have e0 : decide (V.bl (decide (0 ≤ S)) = V.bl (decide (0 ≤ X))) = decide (decide (0 ≤ S) = decide (0 ≤ X)) := by
      by_cases z : decide (0 ≤ S) = decide (0 ≤ X)
      · rw [z, decide_eq_true rfl, decide_eq_true rfl]
      · rw [decide_eq_false z, decide_eq_false fun q => z (V.bl.inj q)]
    have s1 : SameX x H (upd (upd (upd H x (.ins (EC K) dx (putF "width" (.int (iabs X)) []))) x (.ins (EC K) dx (putF "climb" (.int (iabs Y)) (putF "width" (.int (iabs X)) [])))) x (.ins (EC K) dx (putF "depth" (vO (dep a c)) (putF "climb" (.int (iabs Y)) (putF "width" (.int (iabs X)) []))))) :=
      (SameX.upd.trans SameX.upd).trans SameX.upd
    have ht3 : upd (upd (upd H x (.ins (EC K) dx (putF "width" (.int (iabs X)) []))) x (.ins (EC K) dx (putF "climb" (.int (iabs Y)) (putF "width" (.int (iabs X)) [])))) x (.ins (EC K) dx (putF "depth" (vO (dep a c)) (putF "climb" (.int (iabs Y)) (putF "width" (.int (iabs X)) [])))) t = some (.tup [vO a, vO c]) := by
      rw [upd_ne ntx, upd_ne ntx, upd_ne ntx]; exact ht
    have hx3 : upd (upd (upd H x (.ins (EC K) dx (putF "width" (.int (iabs X)) []))) x (.ins (EC K) dx (putF "climb" (.int (iabs Y)) (putF "width" (.int (iabs X)) [])))) x (.ins (EC K) dx (putF "depth" (vO (dep a c)) (putF "climb" (.int (iabs Y)) (putF "width" (.int (iabs X)) [])))) x =
        some (.ins (EC K) dx [("width", .int (iabs X)), ("climb", .int (iabs Y)), ("depth", vO (dep a c))]) := upd_same
    have fin : ∀ (H3 : Hp) (p : Addr) (m : Int) (l : Option Int), SameX x H H3 → H3 x = some (.ins (EC K) dx [("width", .int (iabs X)), ("climb", .int (iabs Y)), ("depth", vO (dep a c))]) → H3 p = none → exOf X Y S a c = ⟨iabs X, iabs Y, dep a c, m, l⟩ →
        gTup K 2 (gCons (gFld K (tVar 0) "base") (gCons (gFld K (tVar 0) "limit") gNil)) (.ref p) [some (.ref x), some (.int X), some (.int Y), some (.ref t), some (.int S)] (upd H3 p (.tup [.int m, vO l])) (fun _ H' => Q .non H') := by
      intro H3 p m l s3 h3 hp he
      refine ⟨_, _, rfl, SqT.of upd_same, rfl, _, _, rfl, _, rfl, _, _, _, _, rfl, by rw [upd_ne (ne_none h3 hp)]; exact h3, T.c_Extents, T.n_Extents_base, by show 3 < 1000; decide, ?_⟩
      refine ⟨_, _, rfl, _, rfl, _, _, _, _, rfl, upd_same, T.c_Extents, T.n_Extents_limit, by show 4 < 1000; decide, rfl, ?_⟩
      refine h _ (((s3.trans (SameX.of (same_upd hp))).trans SameX.upd).trans SameX.upd) ?_
      rw [he]
      exact upd_same
    refine ite2 (fun z => ?_) fun z => ?_
    · have z' := of_decide_eq_true (e0.symm.trans z)
      walk_at "rd"
      refine ⟨l2, fun p hp => ?_⟩
      exact fin _ p _ c s1 hx3 hp (by unfold exOf; rw [if_pos z'] <;> rfl)
    · have z' : ¬ (decide (0 ≤ S) = decide (0 ≤ X)) := fun q => z (e0.trans (decide_eq_true q))
      walk_at "rd"
      refine ⟨l2, fun p hp => ?_⟩
      exact fin _ p _ a s1 hx3 hp (by unfold exOf; rw [if_neg z'] <;> rfl)
def spExtent (K : PySem.W.Frag) : Sp := fun vs H Q _ => ∃ (v : V) (e : Ext) (j u : Int), vs = [v, .int j, .int u] ∧ IsE K H v e ∧ e.Ok ∧ e.Sm ∧ 0 ≤ u ∧ u ≤ j ∧ j < 2 ^ 800 ∧ Q (.int (e.extent j u)) H
theorem scExtentsExtent : FnScope ["self", "pairs", "split", "span"] ["self", "pairs", "split"] (defScope sExtentsExtent) := ⟨rfl, rfl, rfl, by decide +kernel, rfl, by decide +kernel, by decide +kernel⟩
include T in
theorem ok_Extents_extent : Met P w K mg base 2 (EC K) "extent" (spExtent K) [] := by
  obtain ⟨fd, F⟩ := T.d_ExtentsExtent
  refine ⟨_, fd, ["self", "pairs", "split"], [], T.c_Extents, T.m_Extents_extent, F.ok scExtentsExtent (fun vs H Q E h => ?_) (fun cdv A outer s H vs Q E hr h => ⟨_, PSs.nox (pss_cons (ps_set (i := 3) scExtentsExtent.nd rfl (by first | exact Or.inl rfl | exact Or.inr rfl) (pe_c (ok_capped T) hr (by decide) (pa_cons (pe_op op_add (pe_fld (pv 0) rfl) (pv 2)) (pa_cons (pe_fld (pv 0) rfl) pa_nil))))
      (pss_one (ps_ret (pe_op op_add (pe_op op_mulW (pe_fld (pv 0) rfl) (pe_c (ok_capped T) hr (by decide) (pa_cons (pe_op op_add (pe_fld (pv 0) rfl) (pv 2)) (pa_cons (pe_fld (pv 0) rfl) pa_nil)))) (pe_op op_mulW (pe_op op_sub (pv 1) (pv 2)) (pv 3)))))), ?_⟩),
    F.bindsN (by walk_at "b"), .nil⟩
  · obtain ⟨v, e, j, u, rfl, _⟩ := h; rfl
  · obtain ⟨v, e, j, u, rfl, ⟨a, dx, rfl, ha⟩, o, sm, h0, h1, h2, h⟩ := h
    obtain ⟨m1, m2⟩ := ext_mul o sm h0 h1 h2
    unfold eFs at ha
    walk_at "rd"
    refine ⟨m1, ?_⟩
    walk_at "rd"
    refine ⟨m2, ?_⟩
    walk_at "rd"
    exact h
def IsT2 (H : Hp) (v : V) (i k : Int) : Prop := ∃ t, v = .ref t ∧ H t = some (.tup [.int i, .int k])
def spBreaks (K : PySem.W.Frag) : Sp := fun vs H Q _ => ∃ (v : V) (e : Ext) (j : Int), vs = [v, .int j] ∧ IsE K H v e ∧ ∀ (H' : Hp) (r : V), Same H H' → IsT2 H' r (e.first j) (e.second j) → Q r H'
theorem scExtentsBreakpoints : FnScope ["self", "pairs", "first"] ["self", "pairs"] (defScope sExtentsBreakpoints) := ⟨rfl, rfl, rfl, by decide +kernel, rfl, by decide +kernel, by decide +kernel⟩
include T in
theorem ok_Extents_breakpoints : Met P w K mg base 1 (EC K) "breakpoints" (spBreaks K) [] := by
  obtain ⟨fd, F⟩ := T.d_ExtentsBreakpoints
  refine ⟨_, fd, ["self", "pairs"], [], T.c_Extents, T.m_Extents_breakpoints, F.ok scExtentsBreakpoints (fun vs H Q E h => ?_) (fun cdv A outer s H vs Q E hr h => ⟨_, PSs.nox (pss_cons (ps_set (i := 2) scExtentsBreakpoints.nd rfl (by first | exact Or.inl rfl | exact Or.inr rfl) (pe_ifExp (pt_cmp (pc_isN (pe_fld (pv 0) rfl))) (pv 1) (pe_callB (call_min2 rfl) rfl T.f_min boot_min (pa_cons (pv 1) (pa_cons (pe_op op_sub (pe_fld (pv 0) rfl) (pe_fld (pv 0) rfl)) pa_nil)))))
      (pss_one (ps_ret (pe_tup (pa_cons (pv 2) (pa_cons (pe_ifExp (pt_cmp (pc_isN (pe_fld (pv 0) rfl))) (pv 1) (pe_callB (call_min2 rfl) rfl T.f_min boot_min (pa_cons (pv 1) (pa_cons (pe_op op_sub (pe_fld (pv 0) rfl) (pe_fld (pv 0) rfl)) pa_nil)))) pa_nil)))))), ?_⟩),
    F.bindsN (by walk_at "b"), .nil⟩
  · obtain ⟨v, e, j, rfl, _⟩ := h; rfl
  · obtain ⟨v, ⟨ew, ec, ed, eb, el⟩, j, rfl, ⟨a, dx, rfl, ha⟩, h⟩ := h
    unfold eFs at ha
    cases el with
    | none =>
      cases ed with
      | none =>
        walk_at "rd"
        exact ⟨l2, fun p hp => h _ _ (same_upd hp) ⟨p, rfl, upd_same⟩⟩
      | some n =>
        walk_at "rd"
        exact ⟨l2, fun p hp => h _ _ (same_upd hp) ⟨p, rfl, upd_same⟩⟩
    | some k =>
      cases ed with
      | none =>
        walk_at "rd"
        exact ⟨l2, fun p hp => h _ _ (same_upd hp) ⟨p, rfl, upd_same⟩⟩
      | some n =>
        walk_at "rd"
        exact ⟨l2, fun p hp => h _ _ (same_upd hp) ⟨p, rfl, upd_same⟩⟩
def spPeaks (K : PySem.W.Frag) : Sp := fun vs H Q _ => ∃ (v : V) (e : Ext) (j : Int), vs = [v, .int j] ∧ IsE K H v e ∧ ∀ (H' : Hp) (r : V), Same H H' → IsT2 H' r (e.lowPeak j) (e.highPeak j) → Q r H'
theorem scExtentsPeaks : FnScope ["self", "pairs", "first", "second", "low_peak"] ["self", "pairs"] (defScope sExtentsPeaks) := ⟨rfl, rfl, rfl, by decide +kernel, rfl, by decide +kernel, by decide +kernel⟩
include T in
theorem ok_Extents_peaks : Met P w K mg base 2 (EC K) "peaks" (spPeaks K) [] := by
  obtain ⟨fd, F⟩ := T.d_ExtentsPeaks
  refine ⟨_, fd, ["self", "pairs"], [], T.c_Extents, T.m_Extents_peaks, F.ok scExtentsPeaks (fun vs H Q E h => ?_) (fun cdv A outer s H vs Q E hr h => ⟨_, PSs.nox (pss_cons (ps_asg (pe_mt (ok_Extents_breakpoints T) hr (by decide) (pv 0) (pa_cons (pv 1) pa_nil)) (pg_tup rfl (pgs_cons (pg_name (i := 2) scExtentsPeaks.nd rfl (by first | exact Or.inl rfl | exact Or.inr rfl)) (pgs_cons (pg_name (i := 3) scExtentsPeaks.nd rfl (by first | exact Or.inl rfl | exact Or.inr rfl)) pgs_nil))))
      (pss_cons (ps_set (i := 4) scExtentsPeaks.nd rfl (by first | exact Or.inl rfl | exact Or.inr rfl) (pe_callB (call_min2 rfl) rfl T.f_min boot_min (pa_cons (pe_callB (call_max2 rfl) rfl T.f_max boot_max (pa_cons (pe_op op_fdiv (pe_op op_sub (pe_op op_add (pe_fld (pv 0) rfl) (pv 1)) (pe_fld (pv 0) rfl)) pe_int) (pa_cons pe_int pa_nil))) (pa_cons (pv 2) pa_nil))))
      (pss_one (ps_ret (pe_tup (pa_cons (pv 4) (pa_cons (pe_callB (call_min2 rfl) rfl T.f_min boot_min (pa_cons (pe_callB (call_max2 rfl) rfl T.f_max boot_max (pa_cons (pe_op op_fdiv (pe_op op_sub (pv 1) (pe_fld (pv 0) rfl)) pe_int) (pa_cons (pv 2) pa_nil))) (pa_cons (pv 3) pa_nil))) pa_nil))))))), ?_⟩),
    F.bindsN (by walk_at "b"), .nil⟩
  · obtain ⟨v, e, j, rfl, _⟩ := h; rfl
  · obtain ⟨v, e, j, rfl, ⟨a, dx, rfl, ha⟩, h⟩ := h
    walk_at "rd"
    refine ⟨_, _, _, rfl, ha, rfl, ?_⟩
    walk_at "rd"
    refine ⟨_, e, j, rfl, ⟨a, dx, rfl, ha⟩, fun H1 r s1 ⟨t, er, ht⟩ => ?_⟩
    subst er
    have ha1 := s1 _ _ ha
    unfold eFs at ha1
    refine ⟨_, _, rfl, SqT.of ht, rfl, _, _, rfl, _, _, rfl, rfl, ?_⟩
    walk_at "rd"
    refine ⟨⟨by decide, by decide⟩, ?_⟩
    walk_at "rd"
    refine ⟨⟨by decide, by decide⟩, ?_⟩
    walk_at "rd"
    exact ⟨l2, fun p hp => h _ _ (same_upd2 s1 hp) ⟨p, rfl, upd_same⟩⟩
def spBest (K : PySem.W.Frag) : Sp := fun vs H Q _ => ∃ (v : V) (e : Ext) (j : Int), vs = [v, .int j] ∧ IsE K H v e ∧ e.Ok ∧ e.Sm ∧ 0 ≤ j ∧ j < 2 ^ 800 ∧ ∀ (H' : Hp), Same H H' → Q (.int (e.best j)) H'
theorem scExtentsBestSplit : FnScope ["self", "pairs", "first", "second"] ["self", "pairs"] (defScope sExtentsBestSplit) := ⟨rfl, rfl, rfl, by decide +kernel, rfl, by decide +kernel, by decide +kernel⟩
include T in
theorem ok_Extents_best_split : Met P w K mg base 3 (EC K) "best_split" (spBest K) [] := by
  obtain ⟨fd, F⟩ := T.d_ExtentsBestSplit
  refine ⟨_, fd, ["self", "pairs"], [], T.c_Extents, T.m_Extents_best_split, F.ok scExtentsBestSplit (fun vs H Q E h => ?_) (fun cdv A outer s H vs Q E hr h => ⟨_, PSs.nox (pss_cons (ps_asg (pe_mt (ok_Extents_peaks T) hr (by decide) (pv 0) (pa_cons (pv 1) pa_nil)) (pg_tup rfl (pgs_cons (pg_name (i := 2) scExtentsBestSplit.nd rfl (by first | exact Or.inl rfl | exact Or.inr rfl)) (pgs_cons (pg_name (i := 3) scExtentsBestSplit.nd rfl (by first | exact Or.inl rfl | exact Or.inr rfl)) pgs_nil))))
      (pss_one (ps_ret (pe_ifExp (pt_cmp (pc_ge (pe_mt (ok_Extents_extent T) hr (by decide) (pv 0) (pa_cons (pv 1) (pa_cons (pv 2) pa_nil))) (pe_mt (ok_Extents_extent T) hr (by decide) (pv 0) (pa_cons (pv 1) (pa_cons (pv 3) pa_nil))))) (pv 2) (pv 3))))), ?_⟩),
    F.bindsN (by walk_at "b"), .nil⟩
  · obtain ⟨v, e, j, rfl, _⟩ := h; rfl
  · obtain ⟨v, e, j, rfl, ⟨a, dx, rfl, ha⟩, o, sm, h0, h1, h⟩ := h
    obtain ⟨p1, p2, p3, p4⟩ := peaks_range o h0
    walk_at "rd"
    refine ⟨_, _, _, rfl, ha, rfl, ?_⟩
    walk_at "rd"
    refine ⟨_, e, j, rfl, ⟨a, dx, rfl, ha⟩, fun H1 r s1 ⟨t, er, ht⟩ => ?_⟩
    subst er
    have ha1 := s1 _ _ ha
    refine ⟨_, _, rfl, SqT.of ht, rfl, _, _, rfl, _, _, rfl, rfl, ?_⟩
    walk_at "rd"
    refine ⟨_, _, _, rfl, ha1, rfl, ?_⟩
    walk_at "rd"
    refine ⟨_, e, j, _, rfl, ⟨a, dx, rfl, ha1⟩, o, sm, p1, p2, h1, ?_⟩
    walk_at "rd"
    refine ⟨_, _, _, rfl, ha1, rfl, ?_⟩
    walk_at "rd"
    refine ⟨_, e, j, _, rfl, ⟨a, dx, rfl, ha1⟩, o, sm, p3, p4, h1, ?_⟩
    walk_at "rd"
    have hb : e.best j = if e.extent j (e.lowPeak j) ≥ e.extent j (e.highPeak j) then e.lowPeak j else e.highPeak j := rfl
    have h2 := h H1 s1
    refine ite2 (fun z => ?_) fun z => ?_
    · have z' : e.extent j (e.highPeak j) ≤ e.extent j (e.lowPeak j) := of_decide_eq_true z
      rw [hb, if_pos z'] at h2
      exact ⟨_, rfl, h2⟩
    · have z' : ¬ e.extent j (e.highPeak j) ≤ e.extent j (e.lowPeak j) := fun q => z (decide_eq_true q)
      rw [hb, if_neg z'] at h2
      exact ⟨_, rfl, h2⟩
def spGreat (K : PySem.W.Frag) : Sp := fun vs H Q _ => ∃ (v : V) (e : Ext) (j : Int), vs = [v, .int j] ∧ IsE K H v e ∧ e.Ok ∧ e.Sm ∧ 0 ≤ j ∧ j < 2 ^ 800 ∧ ∀ (H' : Hp), Same H H' → Q (.int (e.greatest j)) H'
theorem scExtentsGreatest : FnScope ["self", "pairs"] ["self", "pairs"] (defScope sExtentsGreatest) := ⟨rfl, rfl, rfl, by decide +kernel, rfl, by decide +kernel, by decide +kernel⟩
include T in
theorem ok_Extents_greatest : Met P w K mg base 4 (EC K) "greatest" (spGreat K) [] := by
  obtain ⟨fd, F⟩ := T.d_ExtentsGreatest
  refine ⟨_, fd, ["self", "pairs"], [], T.c_Extents, T.m_Extents_greatest, F.ok scExtentsGreatest (fun vs H Q E h => ?_) (fun cdv A outer s H vs Q E hr h => ⟨_, PSs.nox (pss_one (ps_ret (pe_mt (ok_Extents_extent T) hr (by decide) (pv 0) (pa_cons (pv 1) (pa_cons (pe_mt (ok_Extents_best_split T) hr (by decide) (pv 0) (pa_cons (pv 1) pa_nil)) pa_nil))))), ?_⟩),
    F.bindsN (by walk_at "b"), .nil⟩
  · obtain ⟨v, e, j, rfl, _⟩ := h; rfl
  · obtain ⟨v, e, j, rfl, ⟨a, dx, rfl, ha⟩, o, sm, h0, h1, h⟩ := h
    obtain ⟨p1, p2⟩ := best_range o h0
    walk_at "rd"
    refine ⟨_, _, _, rfl, ha, rfl, ?_⟩
    walk_at "rd"
    refine ⟨_, _, _, rfl, ha, rfl, ?_⟩
    walk_at "rd"
    refine ⟨_, e, j, rfl, ⟨a, dx, rfl, ha⟩, o, sm, h0, h1, fun H1 s1 => ?_⟩
    exact ⟨_, e, j, _, rfl, ⟨a, dx, rfl, s1 _ _ ha⟩, o, sm, p1, p2, h1, h H1 s1⟩
end
end Hs
end

/-! HsD7 -/
section
set_option Elab.async false
set_option linter.all false
set_option maxRecDepth 100000
set_option maxHeartbeats 4000000
namespace Hs
open PySem PySem.Spec PyProof.Rows L2
local macro_rules | `(tactic| walk_at "ix") => `(tactic| refine ⟨_, _, _, _, rfl, rfl, SqT.of (by assumption), (by first | exact at0 | exact at1 | exact at2 | exact at3), ?_⟩)
local macro_rules | `(tactic| walk_at "fl") => `(tactic| refine ⟨_, _, _, _, _, rfl, (by assumption), (by first | exact Tx.c_Band (by assumption) | exact Tx.c_Extents (by assumption) | exact Tx.c_Walker (by assumption)), (by first
  | exact Tx.n_Band_low_end (by assumption) | exact Tx.n_Band_high_end (by assumption) | exact Tx.n_Extents_width (by assumption) | exact Tx.n_Extents_climb (by assumption) | exact Tx.n_Extents_depth (by assumption) | exact Tx.n_Extents_base (by assumption) | exact Tx.n_Extents_limit (by assumption)
  | exact Tx.n_Walker_limits (by assumption) | exact Tx.n_Walker_own_players (by assumption) | exact Tx.n_Walker_own_observer (by assumption) | exact Tx.n_Walker_is_observed (by assumption) | exact Tx.n_Walker_first_state (by assumption) | exact Tx.n_Walker_situation (by assumption) | exact Tx.n_Walker_own_actions (by assumption) | exact Tx.n_Walker_earlier (by assumption)), rfl, ?_⟩)
local macro_rules | `(tactic| walk_at "r1") => `(tactic| first | refine ⟨_, rfl, ?_⟩ | refine ⟨_, _, rfl, rfl, ?_⟩ | refine ⟨_, _, rfl, ?_⟩ | walk_at "ix" | walk_at "fl")
local macro_rules | `(tactic| walk_at "rd") => `(tactic| repeat walk_at "r1")
local macro_rules | `(tactic| walk_at "b") => `(tactic| first | (exact fun _ _ _ _ _ _ us hl => match us, hl with | [_], _ => rfl) | (exact fun _ _ _ _ _ _ us hl => match us, hl with | [_, _], _ => rfl) | (exact fun _ _ _ _ _ _ us hl => match us, hl with | [_, _, _], _ => rfl) | (exact fun _ _ _ _ _ _ us hl => match us, hl with | [_, _, _, _], _ => rfl))
section
variable {P : Program} {w : World} {K : PySem.W.Frag} {mg : Str → Option Value} {base : Heap} (T : Tx K mg)
set_option exponentiation.threshold 2000
/-! ### fewest_pairs -/
theorem p701 : (2 : Int) ^ 700 + 2 ^ 700 + 2 ≤ 2 ^ 800 := by decide
def spFewest (K : PySem.W.Frag) : Sp := fun vs H Q _ => ∃ (v : V) (e : Ext) (t : Int), vs = [v, .int t] ∧ IsE K H v e ∧ e.Ok ∧ e.Sm ∧ e.depth ≠ some 0 ∧ 0 ≤ t ∧ t < 2 ^ 700 ∧ ∀ (H' : Hp) (j : Int), Same H H' → IsFewest e t j → Q (.int j) H'
/-- the test's reading may be weakened -/
theorem lt_mono {K : PySem.W.Frag} {to ti tt : TE} {σ : L2.St} {H : Hp} {m : Str} {Q Q' : Bool → Hp → Prop} (hq : ∀ b H1, Q b H1 → Q' b H1)
    (mo : ∀ {σ H R R'}, (∀ v H1, R v H1 → R' v H1) → to σ H R → to σ H R') (mi : ∀ {σ H R R'}, (∀ v H1, R v H1 → R' v H1) → ti σ H R → ti σ H R') (mt : ∀ {σ H R R'}, (∀ v H1, R v H1 → R' v H1) → tt σ H R → tt σ H R')
    (h : tB (tLt (tMeth (EC K) m (spGreat K) [] E0 to (tCons ti tNil)) tt) σ H Q) : tB (tLt (tMeth (EC K) m (spGreat K) [] E0 to (tCons ti tNil)) tt) σ H Q' := by
  refine mo (fun x H1 h1 => ?_) h
  obtain ⟨a, dx, fs, e1, e2, e3, h1⟩ := h1
  refine ⟨a, dx, fs, e1, e2, e3, mi (fun y H2 h2 => ?_) h1⟩
  obtain ⟨v, e, j, f1, f2, f3, f4, f5, f6, h2⟩ := h2
  refine ⟨v, e, j, f1, f2, f3, f4, f5, f6, fun H3 s3 => mt (fun z H4 h4 => ?_) (h2 H3 s3)⟩
  obtain ⟨i, k, g1, g2, c, g3, h5⟩ := h4
  exact ⟨i, k, g1, g2, c, g3, hq _ _ h5⟩
theorem tVar_mono {i : Nat} {σ : L2.St} {H : Hp} {R R' : V → Hp → Prop} (hq : ∀ v H1, R v H1 → R' v H1) (h : tVar i σ H R) : tVar i σ H R' := let ⟨v, e, q⟩ := h; ⟨v, e, hq _ _ q⟩
theorem scExtentsFewestPairs : FnScope ["self", "target", "enough", "too_few", "middle"] ["self", "target"] (defScope sExtentsFewestPairs) := ⟨rfl, rfl, rfl, by decide +kernel, rfl, by decide +kernel, by decide +kernel⟩
include T in
theorem ok_Extents_fewest_pairs : Met P w K mg base 5 (EC K) "fewest_pairs" (spFewest K) [] := by
  obtain ⟨fd, F⟩ := T.d_ExtentsFewestPairs
  refine ⟨_, fd, ["self", "target"], [], T.c_Extents, T.m_Extents_fewest_pairs, F.ok scExtentsFewestPairs (fun vs H Q E h => ?_) (fun cdv A outer s H vs Q E hr h => ⟨_, PSs.nox (pss_cons (ps_if (pt_cmp (pc_ge (pe_mt (ok_Extents_greatest T) hr (by decide) (pv 0) (pa_cons pe_int pa_nil)) (pv 1))) (pss_one (ps_ret pe_int)) pss_nil)
      (pss_cons (ps_if (pt_cmpR op_eq (pe_fld (pv 0) rfl) pe_int (nomark _)) (pss_one (ps_ret pe_non)) pss_nil)
      (pss_cons (ps_set (i := 2) scExtentsFewestPairs.nd rfl (by first | exact Or.inl rfl | exact Or.inr rfl) pe_int)
      (pss_cons (ps_while PassesOwn.never (pt_cmp (pc_lt (pe_mt (ok_Extents_greatest T) hr (by decide) (pv 0) (pa_cons (pv 2) pa_nil)) (pv 1))) (pss_one (ps_aug (i := 2) scExtentsFewestPairs.nd rfl (by first | exact Or.inl rfl | exact Or.inr rfl) pe_int ip_mul)))
      (pss_cons (ps_set (i := 3) scExtentsFewestPairs.nd rfl (by first | exact Or.inl rfl | exact Or.inr rfl) (pe_op op_fdiv (pv 2) pe_int))
      (pss_cons (ps_while PassesOwn.never (pt_cmp (pc_gt (pe_op op_sub (pv 2) (pv 3)) pe_int)) (pss_cons (ps_set (i := 4) scExtentsFewestPairs.nd rfl (by first | exact Or.inl rfl | exact Or.inr rfl) (pe_op op_fdiv (pe_op op_add (pv 2) (pv 3)) pe_int))
      (pss_one (ps_if (pt_cmp (pc_lt (pe_mt (ok_Extents_greatest T) hr (by decide) (pv 0) (pa_cons (pv 4) pa_nil)) (pv 1))) (pss_one (ps_set (i := 3) scExtentsFewestPairs.nd rfl (by first | exact Or.inl rfl | exact Or.inr rfl) (pv 4))) (pss_one (ps_set (i := 2) scExtentsFewestPairs.nd rfl (by first | exact Or.inl rfl | exact Or.inr rfl) (pv 4)))))))
      (pss_one (ps_ret (pv 2))))))))), ?_⟩),
    F.bindsN (by walk_at "b"), .nil⟩
  · obtain ⟨v, e, j, rfl, _⟩ := h; rfl
  · obtain ⟨v, e, t, rfl, ⟨a, dx, rfl, ha⟩, o, sm, hd, h0, h1, h⟩ := h
    have pw := p701
    have big : ∀ j : Int, j ≤ 2 * t + 1 → j < 2 ^ 800 := fun j hj => by generalize (2 : Int) ^ 800 = B at *; omega
    walk_at "rd"
    refine ⟨_, _, _, rfl, ha, rfl, ?_⟩
    refine ⟨_, e, 0, rfl, ⟨a, dx, rfl, ha⟩, o, sm, by decide, by decide, fun H1 s1 => ?_⟩
    have ha1 := s1 _ _ ha
    walk_at "rd"
    refine ite2 (fun z => ?_) fun z => ?_
    · exact h H1 0 s1 ⟨Int.le_refl _, of_decide_eq_true z, fun q => absurd q (by decide)⟩
    · have g0 : e.greatest 0 < t := by
        have : ¬ t ≤ e.greatest 0 := fun q => z (decide_eq_true q)
        omega
      have hdn : decide (vO e.depth = V.int 0) = false := by
        refine decide_eq_false fun q => hd ?_
        cases hq : e.depth with
        | none => rw [hq] at q; cases q
        | some n => rw [hq] at q; cases q; rfl
      have hsc : scal (vO e.depth) (.int 0) = true := by cases e.depth <;> rfl
      have ha1' := ha1
      unfold eFs at ha1'
      walk_at "rd"
      refine ⟨hsc, _, rfl, ?_⟩
      rw [hdn]
      -- first loop
      refine while_by (fun σ H' => Same H H' ∧ ∃ n u v, σ = [some (.ref a), some (.int t), some (.int n), u, v] ∧ 1 ≤ n ∧ n ≤ 2 * t + 1 ∧ e.greatest (n / 2) < t) (fun σ _ => match σ with | [_, _, some (.int n), _, _] => (2 * t + 2 - n).toNat | _ => 0)
        ⟨s1, 1, _, _, rfl, Int.le_refl _, by omega, by simpa using g0⟩ (fun σ H2 q => ?_) (fun σ H2 R R' hq hm => lt_mono hq tVar_mono tVar_mono tVar_mono hm)
      obtain ⟨s2, n, u, v, rfl, n1, n2, n3⟩ := q
      have ha2 := s2 _ _ ha
      walk_at "rd"
      refine ⟨_, _, _, rfl, ha2, rfl, ?_⟩
      walk_at "rd"
      refine ⟨_, e, n, rfl, ⟨a, dx, rfl, ha2⟩, o, sm, by omega, big n n2, fun H3 s3 => ?_⟩
      have s4 := s2.trans s3
      have ha4 := s4 _ _ ha
      walk_at "rd"
      refine ite2 (fun z => ?_) fun z => ?_
      · have gn : e.greatest n < t := of_decide_eq_true z
        have gb := greatest_big o hd n1
        walk_at "rd"
        refine ⟨?_, ?_⟩
        · refine wide_mul (a := 800) (b := 2) (natAbs_lt (by omega) (big n n2)) (by decide) (by decide) (by decide) (by decide)
        · refine ⟨⟨s4, _, _, _, rfl, by omega, by omega, ?_⟩, ?_⟩
          · rw [Int.mul_ediv_cancel _ (by decide)]; exact gn
          · show (2 * t + 2 - n * 2).toNat < (2 * t + 2 - n).toNat
            omega
      · have gn : t ≤ e.greatest n := by
          have : ¬ e.greatest n < t := fun q => z (decide_eq_true q)
          omega
        refine ⟨_, rfl, _, _, rfl, rfl, ⟨by decide, by decide⟩, ?_⟩
        -- second loop
        refine while_by (fun σ H' => Same H H' ∧ ∃ lo hi v, σ = [some (.ref a), some (.int t), some (.int hi), some (.int lo), v] ∧ 0 ≤ lo ∧ lo < hi ∧ hi ≤ 2 * t + 1 ∧ e.greatest lo < t ∧ t ≤ e.greatest hi) (fun σ _ => match σ with | [_, _, some (.int hi), some (.int lo), _] => (hi - lo).toNat | _ => 0)
          ⟨s4, n / 2, n, _, rfl, by omega, by omega, n2, n3, gn⟩ (fun σ H5 q => ?_) (fun σ H2 R R' hq hm => by
            obtain ⟨x, e1, y, e2, i, j, e3, e4, i2, j2, e5, e6, c, e7, hm⟩ := hm
            exact ⟨x, e1, y, e2, i, j, e3, e4, i2, j2, e5, e6, c, e7, hq _ _ hm⟩)
        obtain ⟨s5, lo, hi, v, rfl, q0, q1, q2, q3, q4⟩ := q
        have ha5 := s5 _ _ ha
        walk_at "rd"
        refine ite2 (fun z => ?_) fun z => ?_
        · have z' : 1 < hi - lo := of_decide_eq_true z
          refine ⟨_, rfl, _, rfl, _, _, rfl, rfl, _, _, rfl, rfl, ⟨by decide, by decide⟩, ?_⟩
          have m1 : lo < (hi + lo) / 2 := by omega
          have m2 : (hi + lo) / 2 < hi := by omega
          walk_at "rd"
          refine ⟨_, _, _, rfl, ha5, rfl, ?_⟩
          walk_at "rd"
          refine ⟨_, e, (hi + lo) / 2, rfl, ⟨a, dx, rfl, ha5⟩, o, sm, by omega, big _ (by omega), fun H6 s6 => ?_⟩
          walk_at "rd"
          refine ite2 (fun z => ?_) fun z => ?_
          · have g : e.greatest ((hi + lo) / 2) < t := of_decide_eq_true z
            walk_at "rd"
            refine ⟨⟨s5.trans s6, _, _, _, rfl, by omega, m2, q2, g, q4⟩, ?_⟩
            show (hi - (hi + lo) / 2).toNat < (hi - lo).toNat
            omega
          · have g : t ≤ e.greatest ((hi + lo) / 2) := by
              have : ¬ e.greatest ((hi + lo) / 2) < t := fun q => z (decide_eq_true q)
              omega
            walk_at "rd"
            refine ⟨⟨s5.trans s6, _, _, _, rfl, q0, m1, by omega, q3, g⟩, ?_⟩
            show ((hi + lo) / 2 - lo).toNat < (hi - lo).toNat
            omega
        · have z' : ¬ 1 < hi - lo := fun q => z (decide_eq_true q)
          have eh : hi - 1 = lo := by omega
          exact ⟨_, rfl, h H5 hi s5 ⟨by omega, q4, fun _ => by rw [eh]; exact q3⟩⟩
end
end Hs
end

/-! HsDist -/
section
set_option Elab.async false
set_option linter.all false
set_option maxRecDepth 100000
set_option maxHeartbeats 4000000
set_option exponentiation.threshold 2000
/-! the distance of two states in a band -/
namespace Hs
open PySem PySem.Spec PyProof.Rows L2
def disp (p q : P3) : P3 := ⟨q.x - p.x, q.h - p.h, q.s - p.s - p.h * (q.x - p.x)⟩
def exPQ (p q : P3) (b : Bnd) : Ext := exOf (disp p q).x (disp p q).h (disp p q).s (below b p.h) (above b p.h)
def IsDist (p q : P3) (b : Bnd) (d : Int) : Prop := ∃ j, IsFewest (exPQ p q b) (iabs (disp p q).s) j ∧ d = iabs (disp p q).x + iabs (disp p q).h + 2 * j
noncomputable def dist (p q : P3) (b : Bnd) : Int := open Classical in if h : ∃ d, IsDist p q b d then Classical.choose h else 0
structure P3.Sm (p : P3) : Prop where
  x : p.x.natAbs < 2 ^ 200
  h : p.h.natAbs < 2 ^ 200
  s : p.s.natAbs < 2 ^ 600
/-- two heights at least -/
def Bnd.Two (b : Bnd) : Prop := ∀ l k, b.lo = some l → b.hi = some k → l < k
structure PQ (p q : P3) (b : Bnd) : Prop where
  hp : b.has p.h = true
  hq : b.has q.h = true
  two : b.Two
  sp : p.Sm
  sq : q.Sm
theorem Bnd.has_lo {b : Bnd} {h l : Int} (e : b.has h = true) (hl : b.lo = some l) : l ≤ h := by
  unfold Bnd.has at e
  rw [hl, Bool.and_eq_true] at e
  exact of_decide_eq_true e.1
theorem Bnd.has_hi {b : Bnd} {h k : Int} (e : b.has h = true) (hk : b.hi = some k) : h ≤ k := by
  unfold Bnd.has at e
  rw [hk, Bool.and_eq_true] at e
  exact of_decide_eq_true e.2
theorem Bnd.has_of {b : Bnd} {h : Int} (h1 : ∀ l, b.lo = some l → l ≤ h) (h2 : ∀ k, b.hi = some k → h ≤ k) : b.has h = true := by
  unfold Bnd.has
  rw [Bool.and_eq_true]
  constructor
  · cases e : b.lo with
    | none => rfl
    | some l => exact decide_eq_true (h1 l e)
  · cases e : b.hi with
    | none => rfl
    | some k => exact decide_eq_true (h2 k e)
theorem iabs_nat (x : Int) : iabs x = (x.natAbs : Int) := by unfold iabs; split <;> omega
theorem iabs_lt {x : Int} {n : Nat} (h : x.natAbs < 2 ^ n) : iabs x < 2 ^ n := by
  rw [iabs_nat]
  have e : ((2 ^ n : Nat) : Int) = 2 ^ n := by simp
  omega
namespace PQ
variable {p q : P3} {b : Bnd}
theorem dxs (o : PQ p q b) : (disp p q).x.natAbs < 2 ^ 201 := by
  have h1 := o.sp.x
  have h2 := o.sq.x
  have e : (2 : Nat) ^ 200 + 2 ^ 200 = 2 ^ 201 := by decide
  show (q.x - p.x).natAbs < _
  generalize (2 : Nat) ^ 200 = B at *
  omega
theorem dhs (o : PQ p q b) : (disp p q).h.natAbs < 2 ^ 201 := by
  have h1 := o.sp.h
  have h2 := o.sq.h
  have e : (2 : Nat) ^ 200 + 2 ^ 200 = 2 ^ 201 := by decide
  show (q.h - p.h).natAbs < _
  generalize (2 : Nat) ^ 200 = B at *
  omega
theorem mul (o : PQ p q b) : CMulW p.h (q.x - p.x) := wide_mul o.sp.h o.dxs (by decide) (by decide) (by decide)
theorem dss (o : PQ p q b) : (disp p q).s.natAbs < 2 ^ 700 := by
  have h1 := o.sp.s
  have h2 := o.sq.s
  have h3 := o.sp.h
  have h4 := o.dxs
  have hm : (p.h * (disp p q).x).natAbs < 2 ^ 200 * 2 ^ 201 := by
    rw [Int.natAbs_mul]
    exact Nat.mul_lt_mul'' h3 h4
  have e : (2 : Nat) ^ 600 + 2 ^ 600 + 2 ^ 200 * 2 ^ 201 ≤ 2 ^ 700 := by decide
  show (q.s - p.s - p.h * (disp p q).x).natAbs < _
  generalize (2 : Nat) ^ 200 * 2 ^ 201 = A at *
  generalize (2 : Nat) ^ 600 = B at *
  generalize p.h * (disp p q).x = m at *
  omega
theorem ok (o : PQ p q b) : (exPQ p q b).Ok := by
  refine exOf_ok (fun k hk => ?_) fun k hk => ?_
  · unfold below at hk
    cases e : b.lo with
    | none => rw [e] at hk; cases hk
    | some l =>
      rw [e] at hk
      cases hk
      have h1 := Bnd.has_lo o.hp e
      have h2 := Bnd.has_lo o.hq e
      show 0 ≤ p.h - l ∧ -(q.h - p.h) ≤ p.h - l
      omega
  · unfold above at hk
    cases e : b.hi with
    | none => rw [e] at hk; cases hk
    | some l =>
      rw [e] at hk
      cases hk
      have h1 := Bnd.has_hi o.hp e
      have h2 := Bnd.has_hi o.hq e
      show 0 ≤ l - p.h ∧ q.h - p.h ≤ l - p.h
      omega
theorem lift {x : Int} (h : x.natAbs < 2 ^ 201) : iabs x < 2 ^ 400 := Int.lt_of_lt_of_le (iabs_lt h) (by decide)
theorem sm (o : PQ p q b) : (exPQ p q b).Sm := exOf_sm (lift o.dxs) (lift o.dhs)
theorem dp (o : PQ p q b) : (exPQ p q b).depth ≠ some 0 := by
  unfold exPQ
  rw [exOf_depth]
  intro h
  unfold below above at h
  cases e1 : b.lo with
  | none => rw [e1] at h; cases h
  | some l =>
    cases e2 : b.hi with
    | none => rw [e1, e2] at h; cases h
    | some k =>
      rw [e1, e2] at h
      have h' : p.h - l + (k - p.h) = 0 := Option.some.inj h
      have := o.two l k e1 e2
      omega
theorem tn (o : PQ p q b) : 0 ≤ iabs (disp p q).s ∧ iabs (disp p q).s < 2 ^ 700 := ⟨(le_iabs _).2, iabs_lt o.dss⟩
theorem jb (o : PQ p q b) {j : Int} (h : IsFewest (exPQ p q b) (iabs (disp p q).s) j) : j.natAbs < 2 ^ 702 := by
  have h1 := h.bound o.ok o.dp
  have h2 := h.1
  have h3 := o.tn
  have e : iabs (iabs (disp p q).s) = iabs (disp p q).s := by
    have z : ∀ x : Int, 0 ≤ x → iabs x = x := fun x hx => by unfold iabs; rw [if_neg (by omega)]
    exact z _ h3.1
  rw [e] at h1
  refine natAbs_lt h2 ?_
  have e2 : (2 : Int) ^ 700 + 1 ≤ 2 ^ 702 := by decide
  generalize (2 : Int) ^ 700 = B at *
  generalize (2 : Int) ^ 702 = C at *
  omega
theorem uniq (o : PQ p q b) {d d' : Int} (h : IsDist p q b d) (h' : IsDist p q b d') : d = d' := by
  obtain ⟨j, h1, h2⟩ := h
  obtain ⟨j', h1', h2'⟩ := h'
  have := h1.uniq o.ok h1'
  omega
theorem eq (o : PQ p q b) {d : Int} (h : IsDist p q b d) : dist p q b = d := by
  unfold dist
  rw [dif_pos ⟨d, h⟩]
  exact o.uniq (Classical.choose_spec ⟨d, h⟩) h
/-- the pairs are found -/
theorem ex (o : PQ p q b) : ∃ d, IsDist p q b d := by
  have key : ∃ n : Nat, iabs (disp p q).s ≤ (exPQ p q b).greatest n := by
    have t := o.tn.1
    refine ⟨(iabs (disp p q).s + 1).toNat, ?_⟩
    have g := greatest_big o.ok o.dp (j := iabs (disp p q).s + 1) (by omega)
    rw [Int.toNat_of_nonneg (by omega)]
    omega
  have dec : ∀ n : Nat, Decidable (iabs (disp p q).s ≤ (exPQ p q b).greatest n) := fun n => inferInstance
  -- the least
  have least : ∀ n : Nat, iabs (disp p q).s ≤ (exPQ p q b).greatest n → ∃ m : Nat, iabs (disp p q).s ≤ (exPQ p q b).greatest m ∧ ∀ i : Nat, i < m → (exPQ p q b).greatest i < iabs (disp p q).s := by
    intro n
    induction n using Nat.strongRecOn with
    | _ n ih =>
      intro hn
      by_cases c : ∃ i : Nat, i < n ∧ iabs (disp p q).s ≤ (exPQ p q b).greatest i
      · obtain ⟨i, hi, hle⟩ := c
        exact ih i hi hle
      · refine ⟨n, hn, fun i hi => ?_⟩
        have : ¬ iabs (disp p q).s ≤ (exPQ p q b).greatest i := fun z => c ⟨i, hi, z⟩
        omega
  obtain ⟨n, hn⟩ := key
  obtain ⟨m, h1, h2⟩ := least n hn
  refine ⟨_, m, ⟨by omega, h1, fun h => ?_⟩, rfl⟩
  have e : ((m : Int) - 1) = ((m - 1 : Nat) : Int) := by omega
  rw [e]
  exact h2 _ (by omega)
theorem is (o : PQ p q b) : IsDist p q b (dist p q b) := by
  obtain ⟨d, h⟩ := o.ex
  rw [o.eq h]
  exact h
end PQ
end Hs
end

/-! HsD8 -/
section
set_option Elab.async false
set_option linter.all false
set_option maxRecDepth 100000
set_option maxHeartbeats 4000000
namespace Hs
open PySem PySem.Spec PyProof.Rows L2
local macro_rules | `(tactic| walk_at "ix") => `(tactic| refine ⟨_, _, _, _, rfl, rfl, SqT.of (by assumption), (by first | exact at0 | exact at1 | exact at2 | exact at3), ?_⟩)
local macro_rules | `(tactic| walk_at "fl") => `(tactic| refine ⟨_, _, _, _, _, rfl, (by assumption), (by first | exact Tx.c_Band (by assumption) | exact Tx.c_Extents (by assumption) | exact Tx.c_Walker (by assumption)), (by first
  | exact Tx.n_Band_low_end (by assumption) | exact Tx.n_Band_high_end (by assumption) | exact Tx.n_Extents_width (by assumption) | exact Tx.n_Extents_climb (by assumption) | exact Tx.n_Extents_depth (by assumption) | exact Tx.n_Extents_base (by assumption) | exact Tx.n_Extents_limit (by assumption)
  | exact Tx.n_Walker_limits (by assumption) | exact Tx.n_Walker_own_players (by assumption) | exact Tx.n_Walker_own_observer (by assumption) | exact Tx.n_Walker_is_observed (by assumption) | exact Tx.n_Walker_first_state (by assumption) | exact Tx.n_Walker_situation (by assumption) | exact Tx.n_Walker_own_actions (by assumption) | exact Tx.n_Walker_earlier (by assumption)), rfl, ?_⟩)
local macro_rules | `(tactic| walk_at "r1") => `(tactic| first | refine ⟨_, rfl, ?_⟩ | refine ⟨_, _, rfl, rfl, ?_⟩ | refine ⟨_, _, rfl, ?_⟩ | walk_at "ix" | walk_at "fl")
local macro_rules | `(tactic| walk_at "rd") => `(tactic| repeat walk_at "r1")
local macro_rules | `(tactic| walk_at "b") => `(tactic| first | (exact fun _ _ _ _ _ _ us hl => match us, hl with | [_], _ => rfl) | (exact fun _ _ _ _ _ _ us hl => match us, hl with | [_, _], _ => rfl) | (exact fun _ _ _ _ _ _ us hl => match us, hl with | [_, _, _], _ => rfl) | (exact fun _ _ _ _ _ _ us hl => match us, hl with | [_, _, _, _], _ => rfl))
section
variable {P : Program} {w : World} {K : PySem.W.Frag} {mg : Str → Option Value} {base : Heap} (T : Tx K mg)
set_option exponentiation.threshold 2000
/-! ### distances -/
theorem kbAll {x qual : Str} {params : Arguments} {body : List Stmt} {scope : Scope} {kws : List (Str × V)} {f : Addr} {fd : FuncData} {ps : List Str} (F : FunD K x qual params body scope [] kws f fd) (n : Nat) (ks : List Str)
    (h : ∀ (kV doc pm : Value) (an : Option Addr) (cdv ct : Value) (us ws : List Value), us.length = n → ws.length = ks.length → bindArgs (PySem.W.fnOf x qual params body scope .none kV doc pm an cdv ct) ⟨us, ks.zip ws⟩ = pure (ps.zip (us ++ ws))) :
    KBn K fd ps n ks (fun us ws => us ++ ws) (fun vs zs => vs ++ zs) := by
  obtain ⟨oc, od, dV, kV, doc, pm, an, cdv, ct, osl, rfl, lk, hcd, hD, hK⟩ := F.ex
  rcases hD with ⟨_, rfl⟩ | ⟨e, _⟩
  · exact ⟨fun s us ws X l1 l2 => .of_eq (h kV doc pm an cdv ct us ws l1 l2), fun r1 r2 => r1.append r2⟩
  · exact absurd rfl e
def spExtFor (K : PySem.W.Frag) : Sp := fun vs H Q _ => ∃ (v r : V) (d : P3) (a c : Option Int), vs = [v, r] ∧ IsP H v d ∧ IsRm H r a c ∧ ∀ (H' : Hp) (u : V), Same H H' → IsE K H' u (exOf d.x d.h d.s a c) → Q u H'
theorem scExtentsFor : FnScope ["displacement", "room"] ["displacement", "room"] (defScope sExtentsFor) := ⟨rfl, rfl, rfl, by decide +kernel, rfl, by decide +kernel, by decide +kernel⟩
include T in
theorem ok_extents_for : Cal P w K mg base 4 "extents_for" (spExtFor K) [] := by
  obtain ⟨fd, F⟩ := T.d_ExtentsFor
  refine ⟨_, fd, ["displacement", "room"], [], F.ok scExtentsFor (fun vs H Q E h => ?_) (fun cdv A outer s H vs Q E hr h => ⟨_, PSs.nox (pss_one (ps_ret (pe_mk (ok_Extents T) hr (by decide) (pa_cons (pe_ix ix_tup (pv 0) pe_int (fun _ _ => rfl)) (pa_cons (pe_ix ix_tup (pv 0) pe_int (fun _ _ => rfl)) (pa_cons (pv 1) (pa_cons (pe_ix ix_tup (pv 0) pe_int (fun _ _ => rfl)) pa_nil))))))), ?_⟩),
    T.g_extents_for, F.kp, F.bindsN (by walk_at "b"), .nil⟩
  · obtain ⟨v, r, d, a, c, rfl, _⟩ := h; rfl
  · obtain ⟨v, r, d, a, c, rfl, ⟨t, rfl, ht⟩, ⟨t2, rfl, ht2⟩, h⟩ := h
    walk_at "rd"
    intro x dx hx hdx hne
    have s0 : Same H (upd (upd H dx (.own x)) x (.ins (EC K) dx [])) := same_at hx (same_upd hdx)
    refine ⟨x, dx, d.x, d.h, d.s, .ref t2, a, c, rfl, upd_same, ⟨t2, rfl, s0 _ _ ht2⟩, fun H' s' h' => ⟨rfl, ?_⟩⟩
    have s1 : Same H H' := fun b o e => s' b o (ne_none e hx) (s0 b o e)
    exact h H' _ s1 ⟨x, dx, rfl, h'⟩
structure FewOk (d : P3) (a c : Option Int) : Prop where
  o : (exOf d.x d.h d.s a c).Ok
  m : (exOf d.x d.h d.s a c).Sm
  dp : (exOf d.x d.h d.s a c).depth ≠ some 0
  t : 0 ≤ iabs d.s ∧ iabs d.s < 2 ^ 700
theorem PQ.few {p q : P3} {b : Bnd} (o : PQ p q b) : FewOk (disp p q) (below b p.h) (above b p.h) := ⟨o.ok, o.sm, o.dp, o.tn⟩
def spFew : Sp := fun vs H Q _ => ∃ (v r : V) (d : P3) (a c : Option Int), vs = [v, r] ∧ IsP H v d ∧ IsRm H r a c ∧ FewOk d a c ∧ ∀ (H' : Hp) (j : Int), Same H H' → IsFewest (exOf d.x d.h d.s a c) (iabs d.s) j → Q (.int j) H'
theorem scFewestPairs : FnScope ["displacement", "room"] ["displacement", "room"] (defScope sFewestPairs) := ⟨rfl, rfl, rfl, by decide +kernel, rfl, by decide +kernel, by decide +kernel⟩
include T in
theorem ok_fewest_pairs : Cal P w K mg base 6 "fewest_pairs" spFew [] := by
  obtain ⟨fd, F⟩ := T.d_FewestPairs
  refine ⟨_, fd, ["displacement", "room"], [], F.ok scFewestPairs (fun vs H Q E h => ?_) (fun cdv A outer s H vs Q E hr h => ⟨_, PSs.nox (pss_one (ps_ret (pe_mt (ok_Extents_fewest_pairs T) hr (by decide) (pe_c (ok_extents_for T) hr (by decide) (pa_cons (pv 0) (pa_cons (pv 1) pa_nil))) (pa_cons (pe_callB call_abs rfl T.f_abs boot_abs (pa_cons (pe_ix ix_tup (pv 0) pe_int (fun _ _ => rfl)) pa_nil)) pa_nil)))), ?_⟩),
    T.g_fewest_pairs, F.kp, F.bindsN (by walk_at "b"), .nil⟩
  · obtain ⟨v, r, d, a, c, rfl, _⟩ := h; rfl
  · obtain ⟨v, r, d, a, c, rfl, hv, hr', fo, h⟩ := h
    walk_at "rd"
    refine ⟨_, _, d, a, c, rfl, hv, hr', fun H1 u s1 ⟨x, dx, eu, hx⟩ => ?_⟩
    subst eu
    obtain ⟨t, rfl, ht⟩ := hv.mono s1
    refine ⟨_, _, _, rfl, hx, rfl, ?_⟩
    walk_at "rd"
    exact ⟨_, _, _, rfl, ⟨x, dx, rfl, hx⟩, fo.o, fo.m, fo.dp, fo.t.1, fo.t.2, fun H2 j s2 hj => h H2 j (s1.trans s2) hj⟩
def spSteps : Sp := fun vs H Q _ => ∃ (v r : V) (d : P3) (a c : Option Int), vs = [v, r] ∧ IsP H v d ∧ IsRm H r a c ∧ FewOk d a c ∧ ∀ (H' : Hp) (j : Int), Same H H' → IsFewest (exOf d.x d.h d.s a c) (iabs d.s) j → Q (.int (iabs d.x + iabs d.h + 2 * j)) H'
theorem scFewestSteps : FnScope ["displacement", "room", "pairs"] ["displacement", "room"] (defScope sFewestSteps) := ⟨rfl, rfl, rfl, by decide +kernel, rfl, by decide +kernel, by decide +kernel⟩
include T in
theorem ok_fewest_steps : Cal P w K mg base 7 "fewest_steps" spSteps [] := by
  obtain ⟨fd, F⟩ := T.d_FewestSteps
  refine ⟨_, fd, ["displacement", "room"], [], F.ok scFewestSteps (fun vs H Q E h => ?_) (fun cdv A outer s H vs Q E hr h => ⟨_, PSs.nox (pss_cons (ps_set (i := 2) scFewestSteps.nd rfl (by first | exact Or.inl rfl | exact Or.inr rfl) (pe_c (ok_fewest_pairs T) hr (by decide) (pa_cons (pv 0) (pa_cons (pv 1) pa_nil))))
      (pss_one (ps_ret (pe_ifExp (pt_cmp (pc_isN (pv 2))) pe_non (pe_op op_add (pe_op op_add (pe_callB call_abs rfl T.f_abs boot_abs (pa_cons (pe_ix ix_tup (pv 0) pe_int (fun _ _ => rfl)) pa_nil)) (pe_callB call_abs rfl T.f_abs boot_abs (pa_cons (pe_ix ix_tup (pv 0) pe_int (fun _ _ => rfl)) pa_nil))) (pe_op op_mulW pe_int (pv 2))))))), ?_⟩),
    T.g_fewest_steps, F.kp, F.bindsN (by walk_at "b"), .nil⟩
  · obtain ⟨v, r, d, a, c, rfl, _⟩ := h; rfl
  · obtain ⟨v, r, d, a, c, rfl, hv, hr', fo, h⟩ := h
    walk_at "rd"
    refine ⟨_, _, d, a, c, rfl, hv, hr', fo, fun H1 j s1 hj => ?_⟩
    obtain ⟨t, rfl, ht⟩ := hv.mono s1
    walk_at "rd"
    refine ⟨?_, ?_⟩
    · refine wide_mul (a := 2) (b := 702) (by decide) (natAbs_lt hj.1 ?_) (by decide) (by decide) (by decide)
      have h1 := hj.bound fo.o fo.dp
      have h3 := fo.t
      have z : ∀ x : Int, 0 ≤ x → iabs x = x := fun x hx => by unfold iabs; rw [if_neg (by omega)]
      rw [z _ h3.1] at h1
      have e2 : (2 : Int) ^ 700 + 1 ≤ 2 ^ 702 := by decide
      generalize (2 : Int) ^ 700 = B at *
      generalize (2 : Int) ^ 702 = C at *
      omega
    · walk_at "rd"
      exact h H1 j s1 hj
def spDistN (K : PySem.W.Frag) : Sp := fun vs H Q _ => ∃ (v u z : V) (p q : P3) (b : Bnd), vs = [v, u, z] ∧ IsP H v p ∧ IsP H u q ∧ IsB K H z b ∧ PQ p q b ∧ ∀ H', Same H H' → Q (.int (dist p q b)) H'
theorem scDistanceOrNone : FnScope ["start", "end", "limits"] ["start", "end", "limits"] (defScope sDistanceOrNone) := ⟨rfl, rfl, rfl, by decide +kernel, rfl, by decide +kernel, by decide +kernel⟩
include T in
theorem ok_distance_or_none : Cal P w K mg base 8 "distance_or_none" (spDistN K) [] := by
  obtain ⟨fd, F⟩ := T.d_DistanceOrNone
  refine ⟨_, fd, ["start", "end", "limits"], [], F.ok scDistanceOrNone (fun vs H Q E h => ?_) (fun cdv A outer s H vs Q E hr h => ⟨_, PSs.nox (pss_one (ps_ret (pe_c (ok_fewest_steps T) hr (by decide) (pa_cons (pe_c (ok_difference T) hr (by decide) (pa_cons (pv 0) (pa_cons (pv 1) pa_nil))) (pa_cons (pe_mt (ok_Band_room T) hr (by decide) (pv 2) (pa_cons (pe_ix ix_tup (pv 0) pe_int (fun _ _ => rfl)) pa_nil)) pa_nil))))), ?_⟩),
    T.g_distance_or_none, F.kp, F.bindsN (by walk_at "b"), .nil⟩
  · obtain ⟨v, u, z, p, q, b, rfl, _⟩ := h; rfl
  · obtain ⟨v, u, z, p, q, b, rfl, hv, hu, hz, o, h⟩ := h
    walk_at "rd"
    refine ⟨_, _, p, q, rfl, hv, hu, o.mul, fun H1 d s1 hd => ?_⟩
    obtain ⟨a, dx, rfl, ha⟩ := hz.mono s1
    obtain ⟨t, rfl, ht⟩ := hv.mono s1
    walk_at "rd"
    refine ⟨_, _, _, rfl, ha, rfl, ?_⟩
    walk_at "rd"
    refine ⟨_, b, p.h, rfl, ⟨a, dx, rfl, ha⟩, o.hp, fun H2 r s2 hr2 => ?_⟩
    exact ⟨_, _, disp p q, _, _, rfl, hd.mono s2, hr2, o.few, fun H3 j s3 hj => by rw [← o.eq ⟨j, hj, rfl⟩]; exact h H3 ((s1.trans s2).trans s3)⟩
def IsDR (H : Hp) (v : V) (p q : P3) (b : Bnd) : Prop := ∃ t v1 v2, v = .ref t ∧ H t = some (.tup [v1, v2]) ∧ IsP H v1 (disp p q) ∧ IsRm H v2 (below b p.h) (above b p.h)
def spDR (K : PySem.W.Frag) : Sp := fun vs H Q _ => ∃ (v u z : V) (p q : P3) (b : Bnd), vs = [v, u, z] ∧ IsP H v p ∧ IsP H u q ∧ IsB K H z b ∧ PQ p q b ∧ ∀ (H' : Hp) (r : V), Same H H' → IsDR H' r p q b → Q r H'
theorem scDisplacementAndRoom : FnScope ["start", "end", "band", "limits", "room"] ["start", "end", "band"] (defScope sDisplacementAndRoom) := ⟨rfl, rfl, rfl, by decide +kernel, rfl, by decide +kernel, by decide +kernel⟩
include T in
theorem ok_displacement_and_room : Cal P w K mg base 4 "displacement_and_room" (spDR K) [] := by
  obtain ⟨fd, F⟩ := T.d_DisplacementAndRoom
  refine ⟨_, fd, ["start", "end", "band"], [], F.ok scDisplacementAndRoom (fun vs H Q E h => ?_) (fun cdv A outer s H vs Q E hr h => ⟨_, PSs.nox (pss_cons (ps_expr (pe_c (ok_check_state T) hr (by decide) (pa_cons (pv 0) pa_nil)))
      (pss_cons (ps_expr (pe_c (ok_check_state T) hr (by decide) (pa_cons (pv 1) pa_nil)))
      (pss_cons (ps_set (i := 3) scDisplacementAndRoom.nd rfl (by first | exact Or.inl rfl | exact Or.inr rfl) (pe_c (ok_to_band T) hr (by decide) (pa_cons (pv 2) pa_nil)))
      (pss_cons (ps_set (i := 4) scDisplacementAndRoom.nd rfl (by first | exact Or.inl rfl | exact Or.inr rfl) (pe_mt (ok_Band_room T) hr (by decide) (pv 3) (pa_cons (pe_ix ix_tup (pv 0) pe_int (fun _ _ => rfl)) pa_nil)))
      (pss_cons (ps_expr (pe_c (ok_check_height T) hr (by decide) (pa_cons (pe_ix ix_tup (pv 1) pe_int (fun _ _ => rfl)) (pa_cons (pv 3) pa_nil))))
      (pss_one (ps_ret (pe_tup (pa_cons (pe_c (ok_difference T) hr (by decide) (pa_cons (pv 0) (pa_cons (pv 1) pa_nil))) (pa_cons (pv 4) pa_nil)))))))))), ?_⟩),
    T.g_displacement_and_room, F.kp, F.bindsN (by walk_at "b"), .nil⟩
  · obtain ⟨v, u, z, p, q, b, rfl, _⟩ := h; rfl
  · obtain ⟨v, u, z, p, q, b, rfl, hv, hu, hz, o, h⟩ := h
    walk_at "rd"
    refine ⟨_, p, rfl, hv, fun H1 s1 => ?_⟩
    walk_at "rd"
    refine ⟨_, q, rfl, hu.mono s1, fun H2 s2 => ?_⟩
    have s12 := s1.trans s2
    obtain ⟨a, dx, rfl, ha⟩ := hz
    have ha2 := s12 _ _ ha
    walk_at "rd"
    refine ⟨_, b, rfl, ⟨a, dx, rfl, ha2⟩, ?_⟩
    obtain ⟨t, rfl, ht⟩ := hv
    have ht2 := s12 _ _ ht
    walk_at "rd"
    refine ⟨_, _, _, rfl, ha2, rfl, ?_⟩
    walk_at "rd"
    refine ⟨_, b, p.h, rfl, ⟨a, dx, rfl, ha2⟩, o.hp, fun H3 r s3 hr3 => ?_⟩
    have s13 := s12.trans s3
    obtain ⟨t3, rfl, ht3⟩ := hu.mono s13
    walk_at "rd"
    refine ⟨_, _, b, rfl, ⟨a, dx, rfl, s13 _ _ ha⟩, fun _ => ?_, fun z => absurd o.hq (by rw [z]; simp)⟩
    walk_at "rd"
    refine ⟨_, _, p, q, rfl, ⟨t, rfl, s13 _ _ ht⟩, ⟨t3, rfl, ht3⟩, o.mul, fun H4 d s4 hd => ?_⟩
    walk_at "rd"
    exact ⟨l2, fun x hx => h _ _ (s13.trans (same_upd2 s4 hx)) ⟨x, _, _, rfl, upd_same, hd.mono (same_upd hx), hr3.mono (same_upd2 s4 hx)⟩⟩
theorem scDistance : FnScope ["start", "end", "band", "displacement", "room", "length"] ["start", "end", "band"] (defScope sDistance) := ⟨rfl, rfl, rfl, by decide +kernel, rfl, by decide +kernel, by decide +kernel⟩
include T in
theorem ok_distance : CalK P w K mg base 8 "distance" (spDistN K) 2 ["band"] (fun vs zs => vs ++ zs) := by
  obtain ⟨fd, F⟩ := T.d_Distance
  refine ⟨_, fd, ["start", "end", "band"], fun us ws => us ++ ws, F.ok scDistance (fun vs H Q E h => ?_) (fun cdv A outer s H vs Q E hr h => ⟨_, PSs.nox (pss_cons (ps_asg (pe_c (ok_displacement_and_room T) hr (by decide) (pa_cons (pv 0) (pa_cons (pv 1) (pa_cons (pv 2) pa_nil)))) (pg_tup rfl (pgs_cons (pg_name (i := 3) scDistance.nd rfl (by first | exact Or.inl rfl | exact Or.inr rfl)) (pgs_cons (pg_name (i := 4) scDistance.nd rfl (by first | exact Or.inl rfl | exact Or.inr rfl)) pgs_nil))))
      (pss_cons (ps_set (i := 5) scDistance.nd rfl (by first | exact Or.inl rfl | exact Or.inr rfl) (pe_c (ok_fewest_steps T) hr (by decide) (pa_cons (pv 3) (pa_cons (pv 4) pa_nil))))
      (pss_cons (ps_if (pt_cmp (pc_isN (pv 5))) pss_never pss_nil)
      (pss_one (ps_ret (pv 5)))))), ?_⟩),
    T.g_distance, F.kp, kbAll F 2 ["band"] fun kV doc pm an cdv ct us ws hl h2 => match us, ws, hl, h2 with | [_, _], [_], _, _ => rfl⟩
  · obtain ⟨v, u, z, p, q, b, rfl, _⟩ := h; rfl
  · obtain ⟨v, u, z, p, q, b, rfl, hv, hu, hz, o, h⟩ := h
    walk_at "rd"
    refine ⟨_, _, _, p, q, b, rfl, hv, hu, hz, o, fun H1 r s1 ⟨t, v1, v2, er, ht, hd, hr2⟩ => ?_⟩
    subst er
    refine ⟨_, _, rfl, SqT.of ht, rfl, _, _, rfl, _, _, rfl, rfl, ?_⟩
    walk_at "rd"
    refine ⟨_, _, disp p q, _, _, rfl, hd, hr2, o.few, fun H3 j s3 hj => ?_⟩
    walk_at "rd"
    have h' := h H3 (s1.trans s3)
    rw [o.eq ⟨j, hj, rfl⟩] at h'
    exact h'
end
end Hs
end

/-! HsWk -/
section
set_option Elab.async false
set_option linter.all false
set_option maxRecDepth 100000
set_option maxHeartbeats 4000000
/-! a comprehension over a text's signs; the walker's data -/
namespace Hs
open PySem PySem.Spec PyProof.Rows L2
theorem lc_str {x : Str} {g : TG} {tt : TT} {te : TE} {vs : List Nat} {σ : L2.St} {H1 : Hp} {D : Addr} {Qd : Hp → Prop} (Pv : Nat → Hp → Prop) (h0 : Pv 0 (upd H1 D (.lst [])))
    (hs : ∀ i c H, x.cps[i]? = some c → Pv i H → g (.str ⟨#[c]⟩) (wipe σ vs) H fun σ2 H2 => wipe σ2 vs = wipe σ vs ∧ tt σ2 H2 fun b H3 =>
      if b = true then te σ2 H3 fun y H4 => ∃ acc, H4 D = some (.lst acc) ∧ acc.length < sizeLine ∧ Pv (i + 1) (upd H4 D (.lst (acc ++ [y]))) else Pv (i + 1) H3) (hd : ∀ H, Pv x.cps.size H → Qd H) :
    ∃ W : Nat → Nat → Hp → Prop, (∃ m, W 0 m (upd H1 D (.lst []))) ∧ ∀ i m H, W i m H →
      ((Its x).stop i H ∧ Qd H) ∨ ((Its x).go i H ∧ ∃ Nx : Hp → Prop, (∀ H', Nx H' → ∃ m', m' < m ∧ W (i + 1) m' H') ∧ ∀ z H', (Its x).yld i H z H' → g z (wipe σ vs) H' fun σ2 H2 => wipe σ2 vs = wipe σ vs ∧ tt σ2 H2 fun b H3 =>
        if b = true then te σ2 H3 fun y H4 => ∃ acc, H4 D = some (.lst acc) ∧ acc.length < sizeLine ∧ Nx (upd H4 D (.lst (acc ++ [y]))) else Nx H3) := by
  refine ⟨fun i m H => m = x.cps.size - i ∧ i ≤ x.cps.size ∧ Pv i H, ⟨x.cps.size, by simp, Nat.zero_le _, h0⟩, ?_⟩
  rintro i m H ⟨rfl, hi, p⟩
  by_cases hlt : i < x.cps.size
  · refine .inr ⟨hlt, Pv (i + 1), fun H' p' => ⟨x.cps.size - (i + 1), by omega, rfl, hlt, p'⟩, fun z H' y => ?_⟩
    obtain ⟨rfl, c, hc, rfl⟩ := y
    exact hs i c _ hc p
  · have e : i = x.cps.size := by omega
    subst e
    exact .inl ⟨Nat.le_refl _, hd H p⟩
/-! ### names -/
def abc : Str := "abcdefghijklmnopqrstuvwxyz"
def NameOk (z : Str) : Prop := 1 ≤ z.length ∧ z.length ≤ 8 ∧ ∀ c ∈ z.cps.toList, c ∈ abc.cps.toList
structure NamesOk (ns : List Str) : Prop where
  n1 : 1 ≤ ns.length
  n2 : ns.length ≤ 6
  nd : ns.Nodup
  ok : ∀ z ∈ ns, NameOk z
def IsNames (H : Hp) (v : V) (ns : List Str) : Prop := ∃ a, v = .ref a ∧ H a = some (.tup (ns.map V.str))
theorem IsNames.mono {H H' : Hp} {v : V} {ns : List Str} (h : IsNames H v ns) (s : Same H H') : IsNames H' v ns := let ⟨a, e, q⟩ := h; ⟨a, e, s _ _ q⟩
/-! ### situations, actions -/
structure Sit where
  st : P3
  gl : P3
  left : Int
  turn : Int
inductive Act where
  | adv (nm : Str) (d : Dir) (n : Int)
  | goal (g : P3)
  | undo (n : Int)
def IsSit (H : Hp) (v : V) (s : Sit) : Prop := ∃ a v1 v2, v = .ref a ∧ H a = some (.tup [v1, v2, .int s.left, .int s.turn]) ∧ IsP H v1 s.st ∧ IsP H v2 s.gl
theorem IsSit.mono {H H' : Hp} {v : V} {x : Sit} (h : IsSit H v x) (s : Same H H') : IsSit H' v x := let ⟨a, v1, v2, e, q, p1, p2⟩ := h; ⟨a, v1, v2, e, s _ _ q, p1.mono s, p2.mono s⟩
def IsAct (H : Hp) (v : V) : Act → Prop
  | .adv nm d n => ∃ a, v = .ref a ∧ H a = some (.tup [.str "advance", .str nm, .str d.t, .int n])
  | .goal g => ∃ a u, v = .ref a ∧ H a = some (.tup [.str "goal", u]) ∧ IsP H u g
  | .undo n => ∃ a, v = .ref a ∧ H a = some (.tup [.str "undo", .int n])
theorem IsAct.mono {H H' : Hp} {v : V} {x : Act} (h : IsAct H v x) (s : Same H H') : IsAct H' v x := by
  cases x with
  | adv nm d n => obtain ⟨a, e, q⟩ := h; exact ⟨a, e, s _ _ q⟩
  | goal g => obtain ⟨a, u, e, q, p⟩ := h; exact ⟨a, u, e, s _ _ q, p.mono s⟩
  | undo n => obtain ⟨a, e, q⟩ := h; exact ⟨a, e, s _ _ q⟩
/-! ### heaps in which only lists and instances of some places change -/
/-- the places ls hold no tuple; all else is kept -/
def SameL (ls : List Addr) (H H' : Hp) : Prop := ∀ b o, b ∉ ls → H b = some o → H' b = some o
theorem SameL.of {ls : List Addr} {H H' : Hp} (s : Same H H') : SameL ls H H' := fun b o _ h => s b o h
theorem SameL.trans {ls : List Addr} {H H1 H2 : Hp} (a : SameL ls H H1) (b : SameL ls H1 H2) : SameL ls H H2 := fun c o n h => b c o n (a c o n h)
theorem SameL.upd {ls : List Addr} {H : Hp} {l : Addr} {o : HO} (h : l ∈ ls) : SameL ls H (upd H l o) := fun b u n e => by
  have nb : b ≠ l := fun z => n (by rw [z]; exact h)
  rw [upd_ne nb]; exact e
theorem SameL.mono {ls ms : List Addr} {H H' : Hp} (s : SameL ls H H') (h : ∀ l ∈ ls, l ∈ ms) : SameL ms H H' := fun b o n e => s b o (fun z => n (h b z)) e
/-- no tuple stands at the places ls -/
def NoTup (H : Hp) (ls : List Addr) : Prop := ∀ l ∈ ls, ∀ xs, H l ≠ some (.tup xs)
theorem SameL.tup {ls : List Addr} {H H' : Hp} {a : Addr} {xs : List V} (s : SameL ls H H') (n : NoTup H ls) (h : H a = some (.tup xs)) : H' a = some (.tup xs) := s a _ (fun z => n a z xs h) h
theorem IsP.monoL {H H' : Hp} {v : V} {p : P3} {ls : List Addr} (h : IsP H v p) (s : SameL ls H H') (n : NoTup H ls) : IsP H' v p := let ⟨a, e, q⟩ := h; ⟨a, e, s.tup n q⟩
theorem IsSit.monoL {H H' : Hp} {v : V} {x : Sit} {ls : List Addr} (h : IsSit H v x) (s : SameL ls H H') (n : NoTup H ls) : IsSit H' v x := let ⟨a, v1, v2, e, q, p1, p2⟩ := h; ⟨a, v1, v2, e, s.tup n q, p1.monoL s n, p2.monoL s n⟩
theorem IsAct.monoL {H H' : Hp} {v : V} {x : Act} {ls : List Addr} (h : IsAct H v x) (s : SameL ls H H') (n : NoTup H ls) : IsAct H' v x := by
  cases x with
  | adv nm d m => obtain ⟨a, e, q⟩ := h; exact ⟨a, e, s.tup n q⟩
  | goal g => obtain ⟨a, u, e, q, p⟩ := h; exact ⟨a, u, e, s.tup n q, p.monoL s n⟩
  | undo m => obtain ⟨a, e, q⟩ := h; exact ⟨a, e, s.tup n q⟩
theorem IsNames.monoL {H H' : Hp} {v : V} {ns : List Str} {ls : List Addr} (h : IsNames H v ns) (s : SameL ls H H') (n : NoTup H ls) : IsNames H' v ns := let ⟨a, e, q⟩ := h; ⟨a, e, s.tup n q⟩
/-! ### the walker -/
structure Wk where
  b : Bnd
  ns : List Str
  s0 : Sit
  hist : List (Act × Sit)
def Wk.sits (W : Wk) : List Sit := W.s0 :: W.hist.map (·.2)
def Wk.cur (W : Wk) : Sit := (W.hist.getLast?.map (·.2)).getD W.s0
theorem Wk.sits_cur (W : Wk) : W.sits.getLast? = some W.cur := by
  unfold Wk.sits Wk.cur
  rcases List.eq_nil_or_concat W.hist with e | ⟨L, x, e⟩
  · rw [e]; rfl
  · rw [e, List.concat_eq_append, List.map_append, List.map_singleton, ← List.cons_append, List.getLast?_concat, List.getLast?_concat] <;> rfl
def wFs (lim pl st0 sit : V) (LA LE : Addr) : List (Str × V) :=
  [("limits", lim), ("own_players", pl), ("own_observer", .non), ("is_observed", .bl false), ("first_state", st0), ("situation", sit), ("own_actions", .ref LA), ("earlier", .ref LE)]
/-- the walker W at a, its lists at LA, LE -/
structure AtW (K : PySem.W.Frag) (H : Hp) (a LA LE : Addr) (W : Wk) : Prop where
  ex : ∃ (dx : Addr) (lim pl st0 sit : V) (xa xe : List V), H a = some (.ins (WC K) dx (wFs lim pl st0 sit LA LE)) ∧ IsB K H lim W.b ∧ IsNames H pl W.ns ∧ IsP H st0 W.s0.st ∧ IsSit H sit W.cur ∧
    H LA = some (.lst xa) ∧ All2 (IsAct H) xa (W.hist.map (·.1)) ∧ H LE = some (.lst xe) ∧ All2 (IsSit H) xe W.sits.dropLast
  ne : LA ≠ LE
theorem AtW.mono {K : PySem.W.Frag} {H H' : Hp} {a LA LE : Addr} {W : Wk} (h : AtW K H a LA LE W) (s : Same H H') : AtW K H' a LA LE W := by
  obtain ⟨⟨dx, lim, pl, st0, sit, xa, xe, h1, h2, h3, h4, h5, h6, h7, h8, h9⟩, n⟩ := h
  exact ⟨⟨dx, lim, pl, st0, sit, xa, xe, s _ _ h1, h2.mono s, h3.mono s, h4.mono s, h5.mono s, s _ _ h6, h7.imp fun _ _ q => q.mono s, s _ _ h8, h9.imp fun _ _ q => q.mono s⟩, n⟩
end Hs
end

/-! HsD9 -/
section
set_option Elab.async false
set_option linter.all false
set_option maxRecDepth 100000
set_option maxHeartbeats 4000000
namespace Hs
open PySem PySem.Spec PyProof.Rows L2
local macro_rules | `(tactic| walk_at "ix") => `(tactic| refine ⟨_, _, _, _, rfl, rfl, SqT.of (by assumption), (by first | exact at0 | exact at1 | exact at2 | exact at3), ?_⟩)
local macro_rules | `(tactic| walk_at "fl") => `(tactic| refine ⟨_, _, _, _, _, rfl, (by assumption), (by first | exact Tx.c_Band (by assumption) | exact Tx.c_Extents (by assumption) | exact Tx.c_Walker (by assumption)), (by first
  | exact Tx.n_Band_low_end (by assumption) | exact Tx.n_Band_high_end (by assumption) | exact Tx.n_Extents_width (by assumption) | exact Tx.n_Extents_climb (by assumption) | exact Tx.n_Extents_depth (by assumption) | exact Tx.n_Extents_base (by assumption) | exact Tx.n_Extents_limit (by assumption)
  | exact Tx.n_Walker_limits (by assumption) | exact Tx.n_Walker_own_players (by assumption) | exact Tx.n_Walker_own_observer (by assumption) | exact Tx.n_Walker_is_observed (by assumption) | exact Tx.n_Walker_first_state (by assumption) | exact Tx.n_Walker_situation (by assumption) | exact Tx.n_Walker_own_actions (by assumption) | exact Tx.n_Walker_earlier (by assumption)), rfl, ?_⟩)
local macro_rules | `(tactic| walk_at "r1") => `(tactic| first | refine ⟨_, rfl, ?_⟩ | refine ⟨_, _, rfl, rfl, ?_⟩ | refine ⟨_, _, rfl, ?_⟩ | walk_at "ix" | walk_at "fl")
local macro_rules | `(tactic| walk_at "rd") => `(tactic| repeat walk_at "r1")
local macro_rules | `(tactic| walk_at "b") => `(tactic| first | (exact fun _ _ _ _ _ _ us hl => match us, hl with | [_], _ => rfl) | (exact fun _ _ _ _ _ _ us hl => match us, hl with | [_, _], _ => rfl) | (exact fun _ _ _ _ _ _ us hl => match us, hl with | [_, _, _], _ => rfl) | (exact fun _ _ _ _ _ _ us hl => match us, hl with | [_, _, _, _], _ => rfl))
section
variable {P : Program} {w : World} {K : PySem.W.Frag} {mg : Str → Option Value} {base : Heap} (T : Tx K mg)
/-! ### names -/
theorem kb_s2 : kitB "str" "str" = some true := by decide +kernel
def spIsName : Sp := fun vs H Q _ => ∃ (z : Str), vs = [.str z] ∧ NameOk z ∧ ∀ H', Same H H' → Q (.bl true) H'
theorem scIsName : FnScope ["value", "sign"] ["value"] (defScope sIsName) := ⟨rfl, rfl, rfl, by decide +kernel, rfl, by decide +kernel, by decide +kernel⟩
include T in
theorem ok_is_name : Cal P w K mg base 1 "is_name" spIsName [] := by
  obtain ⟨fd, F⟩ := T.d_IsName
  obtain ⟨tM, hMAXNAMELENGTH⟩ := T.i_MAX_NAME_LENGTH
  obtain ⟨tL, hLOWERCASE⟩ := T.s_LOWERCASE
  refine ⟨_, fd, ["value"], [], F.ok scIsName (fun vs H Q E h => ?_) (fun cdv A outer s H vs Q E hr h => ⟨_, PSs.nox (pss_one (ps_ret (pe_and (pe_callB call_isi rfl T.f_isinstance boot_isinstance (pa_cons (pv 0) (pa_cons (pe_bltn (v := .ty "str") rfl T.f_str boot_str rfl) pa_nil))) (pe_and (pe_chain op_le op_le pe_int (pe_callB call_len_str rfl T.f_len boot_len (pa_cons (pv 0) pa_nil)) (pe_glob (v := .int 8) rfl hMAXNAMELENGTH ⟨_, rfl⟩)) (pe_one (pe_callB (cr_all rfl) rfl T.f_all boot_all (pa_cons (pe_lc (own := [("sign", 1)]) (g := gName 1) (tt := tYes) rfl scIsName.nd (pi_str (pv 0)) (blkOk_by (own := [("sign", 1)]) (N := ["value", "sign"]) (sc := defScope sIsName) (by decide +kernel)) (fun _ _ _ _ _ => pg_name (i := 1) scIsName.nd rfl (by first | exact Or.inl rfl | exact Or.inr rfl)) (fun _ _ _ _ _ => pts_nil) (fun _ _ _ _ _ => pe_cmpR op_in_sign (pv 1) (pe_glob (v := .str "abcdefghijklmnopqrstuvwxyz") rfl hLOWERCASE ⟨_, rfl⟩) rfl)) pa_nil))))))), ?_⟩),
    T.g_is_name, F.kp, F.bindsN (by walk_at "b"), .nil⟩
  · obtain ⟨z, rfl, _⟩ := h; rfl
  · obtain ⟨z, rfl, ⟨h1, h2, h3⟩, h⟩ := h
    have hsz : z.length ≤ sizeLine := by rw [sizeLine_eq]; omega
    walk_at "rd"
    refine ⟨_, _, _, _, _, rfl, .ty "str", .base (.str _), kit_ty kb_ss, ?_⟩
    walk_at "rd"
    refine ⟨hsz, ?_⟩
    walk_at "rd"
    have e1 : decide ((1 : Int) ≤ (z.length : Nat)) = true := decide_eq_true (by omega)
    have e2 : decide (((z.length : Nat) : Int) ≤ 8) = true := decide_eq_true (by omega)
    refine ite2 (fun _ => ?_) fun q => absurd e1 q
    refine ⟨_, _, rfl, rfl, _, rfl, ?_⟩
    refine ite2 (fun _ => ?_) fun q => absurd e2 q
    refine ⟨_, rfl, _, rfl, fun D hD => ?_⟩
    refine lc_str (x := z) (fun i H' => Same H H' ∧ H' D = some (.lst (List.replicate i (.bl true)))) ⟨same_upd hD, upd_same⟩ (fun i c H' hc q => ?_) fun H' q => ?_
    · have hl : i < z.cps.size := (Array.getElem?_eq_some_iff.mp hc).1
      have hm : c ∈ abc.cps.toList := h3 c (by rw [Array.mem_toList_iff]; exact Array.mem_of_getElem? hc)
      have e3 : decide (c ∈ abc.cps.toList) = true := decide_eq_true hm
      refine ⟨rfl, _, rfl, _, _, rfl, rfl, ?_⟩
      show ∃ acc, H' D = some (.lst acc) ∧ acc.length < sizeLine ∧ (Same H (upd H' D (.lst (acc ++ [.bl (decide (c ∈ abc.cps.toList))]))) ∧ upd H' D (.lst (acc ++ [.bl (decide (c ∈ abc.cps.toList))])) D = some (.lst (List.replicate (i + 1) (.bl true))))
      rw [e3]
      refine ⟨_, q.2, ?_, same_at hD q.1, ?_⟩
      · rw [List.length_replicate]
        have : z.cps.size ≤ 8 := h2
        rw [sizeLine_eq]; omega
      · rw [upd_same, ← List.replicate_succ']
    · refine ⟨_, List.replicate z.cps.size true, rfl, SqL.of (by rw [List.map_replicate]; exact q.2), ?_⟩
      have ea : (List.replicate z.cps.size true).all id = true := by simp
      rw [ea]
      exact h H' q.1
def spPlayers : Sp := fun vs H Q _ => ∃ (v : V) (ns : List Str), vs = [v] ∧ IsNames H v ns ∧ NamesOk ns ∧ ∀ H', Same H H' → Q (.bl true) H'
theorem scArePlayers : FnScope ["value", "item"] ["value"] (defScope sArePlayers) := ⟨rfl, rfl, rfl, by decide +kernel, rfl, by decide +kernel, by decide +kernel⟩
include T in
theorem ok_are_players : Cal P w K mg base 2 "are_players" spPlayers [] := by
  obtain ⟨fd, F⟩ := T.d_ArePlayers
  obtain ⟨tM, hMAXPLAYERS⟩ := T.i_MAX_PLAYERS
  refine ⟨_, fd, ["value"], [], F.ok scArePlayers (fun vs H Q E h => ?_) (fun cdv A outer s H vs Q E hr h => ⟨_, PSs.nox (pss_cons (ps_if (PW.pt (pw_or (pt_not (pt_val (pe_callB call_isi rfl T.f_isinstance boot_isinstance (pa_cons (pv 0) (pa_cons (pe_bltn (v := .ty "tuple") rfl T.f_tuple boot_tuple rfl) pa_nil))))) (pw_or1 (pt_not (pt_chain op_le op_le pe_int (pe_callB call_len_seq rfl T.f_len boot_len (pa_cons (pv 0) pa_nil)) (pe_glob (v := .int 6) rfl hMAXPLAYERS ⟨_, rfl⟩)))))) pss_never pss_nil)
      (pss_one (ps_ret (pe_and (pe_callB (cr_all rfl) rfl T.f_all boot_all (pa_cons (pe_lc (own := [("item", 1)]) (g := gName 1) (tt := tYes) rfl scArePlayers.nd (pi_tup (pv 0)) (blkOk_by (own := [("item", 1)]) (N := ["value", "item"]) (sc := defScope sArePlayers) (by decide +kernel)) (fun _ _ _ _ _ => pg_name (i := 1) scArePlayers.nd rfl (by first | exact Or.inl rfl | exact Or.inr rfl)) (fun _ _ _ _ _ => pts_nil) (fun _ _ _ _ _ => pe_c (ok_is_name T) hr (by decide) (pa_cons (pv 1) pa_nil))) pa_nil)) (pe_one (pe_cmp (pc_eqI (pe_lenSetT rfl rfl T.f_len rfl T.f_set (pv 0)) (pe_callB call_len_seq rfl T.f_len boot_len (pa_cons (pv 0) pa_nil))))))))), ?_⟩),
    T.g_are_players, F.kp, F.bindsN (by walk_at "b"), .nil⟩
  · obtain ⟨z, ns, rfl, _⟩ := h; rfl
  · obtain ⟨z, ns, rfl, ⟨a, rfl, ha⟩, ⟨h1, h2, h3, h4⟩, h⟩ := h
    have e1 : decide ((1 : Int) ≤ ((ns.map V.str).length : Nat)) = true := decide_eq_true (by rw [List.length_map]; omega)
    have e2 : decide ((((ns.map V.str).length : Nat) : Int) ≤ 6) = true := decide_eq_true (by rw [List.length_map]; omega)
    walk_at "rd"
    refine ⟨_, _, _, _, _, rfl, .ty "tuple", .base (.tup ha), kit_ty kb_tt, ?_⟩
    walk_at "rd"
    refine ⟨_, _, rfl, .inr (SqT.of ha), ?_⟩
    walk_at "rd"
    refine ite2 (fun _ => ?_) fun q => absurd e1 q
    refine ⟨_, _, rfl, rfl, _, rfl, ?_⟩
    show if (!decide ((((ns.map V.str).length : Nat) : Int) ≤ 6)) = true then _ else _
    rw [e2]
    refine iteF ?_
    refine ⟨_, rfl, _, rfl, ⟨_, SqT.of ha⟩, fun D hD => ?_⟩
    refine lc_tup (xs := ns.map V.str) (fun i H' => Same H H' ∧ H' D = some (.lst (List.replicate i (.bl true)))) ⟨same_upd hD, upd_same⟩ (fun i H' _ q => SqT.of (q.1 _ _ ha)) (fun i x H' hx q => ?_) fun H' q => ?_
    · rw [List.getElem?_map] at hx
      obtain ⟨z, hz, rfl⟩ := Option.map_eq_some_iff.mp hx
      have hl : i < ns.length := (List.getElem?_eq_some_iff.mp hz).1
      refine ⟨rfl, _, rfl, _, rfl, h4 z (List.mem_of_getElem? hz), fun H2 s2 => ?_⟩
      refine ⟨_, s2 _ _ q.2, ?_, same_at hD (q.1.trans s2), ?_⟩
      · rw [List.length_replicate, sizeLine_eq]; omega
      · rw [upd_same, ← List.replicate_succ']
    · refine ⟨_, List.replicate (ns.map V.str).length true, rfl, SqL.of (by rw [List.map_replicate]; exact q.2), ?_⟩
      have ea : (List.replicate (ns.map V.str).length true).all id = true := by simp
      rw [ea]
      refine ⟨_, rfl, ?_⟩
      have ha2 := q.1 _ _ ha
      refine ⟨_, rfl, _, ns, rfl, SqT.of ha2, h3, by omega, ?_⟩
      refine ⟨_, rfl, _, _, rfl, .inr (SqT.of ha2), ?_⟩
      walk_at "rd"
      have e3 : decide (((ns.length : Nat) : Int) = ((ns.map V.str).length : Nat)) = true := decide_eq_true (by rw [List.length_map])
      show Q (.bl (decide (((ns.length : Nat) : Int) = ((ns.map V.str).length : Nat)))) H'
      rw [e3]
      exact h H' q.1
end
end Hs
end

/-! HsD10 -/
section
set_option Elab.async false
set_option linter.all false
set_option maxRecDepth 100000
set_option maxHeartbeats 4000000
namespace Hs
open PySem PySem.Spec PyProof.Rows L2
local macro_rules | `(tactic| walk_at "ix") => `(tactic| refine ⟨_, _, _, _, rfl, rfl, SqT.of (by assumption), (by first | exact at0 | exact at1 | exact at2 | exact at3), ?_⟩)
local macro_rules | `(tactic| walk_at "fl") => `(tactic| refine ⟨_, _, _, _, _, rfl, (by assumption), (by first | exact Tx.c_Band (by assumption) | exact Tx.c_Extents (by assumption) | exact Tx.c_Walker (by assumption)), (by first
  | exact Tx.n_Band_low_end (by assumption) | exact Tx.n_Band_high_end (by assumption) | exact Tx.n_Extents_width (by assumption) | exact Tx.n_Extents_climb (by assumption) | exact Tx.n_Extents_depth (by assumption) | exact Tx.n_Extents_base (by assumption) | exact Tx.n_Extents_limit (by assumption)
  | exact Tx.n_Walker_limits (by assumption) | exact Tx.n_Walker_own_players (by assumption) | exact Tx.n_Walker_own_observer (by assumption) | exact Tx.n_Walker_is_observed (by assumption) | exact Tx.n_Walker_first_state (by assumption) | exact Tx.n_Walker_situation (by assumption) | exact Tx.n_Walker_own_actions (by assumption) | exact Tx.n_Walker_earlier (by assumption)), rfl, ?_⟩)
local macro_rules | `(tactic| walk_at "r1") => `(tactic| first | refine ⟨_, rfl, ?_⟩ | refine ⟨_, _, rfl, rfl, ?_⟩ | refine ⟨_, _, rfl, ?_⟩ | walk_at "ix" | walk_at "fl")
local macro_rules | `(tactic| walk_at "rd") => `(tactic| repeat walk_at "r1")
local macro_rules | `(tactic| walk_at "b") => `(tactic| first | (exact fun _ _ _ _ _ _ us hl => match us, hl with | [_], _ => rfl) | (exact fun _ _ _ _ _ _ us hl => match us, hl with | [_, _], _ => rfl) | (exact fun _ _ _ _ _ _ us hl => match us, hl with | [_, _, _], _ => rfl) | (exact fun _ _ _ _ _ _ us hl => match us, hl with | [_, _, _, _], _ => rfl))
section
variable {P : Program} {w : World} {K : PySem.W.Frag} {mg : Str → Option Value} {base : Heap} (T : Tx K mg)
/-! ### Walker.__init__ -/
theorem ne_ins {H : Hp} {a x C dx : Addr} {fs : List (Str × V)} {o : HO} (hx : H x = some (.ins C dx fs)) (h : H a = some o) (ho : ∀ C dx fs, o ≠ .ins C dx fs) : a ≠ x := fun z => by
  rw [z, hx] at h
  exact ho _ _ _ (Option.some.inj h).symm
theorem IsB.ne {K : PySem.W.Frag} {H : Hp} {a x dx C dy : Addr} {b : Bnd} (h : H a = some (.ins (BC K) dx [("low_end", vO b.lo), ("high_end", vO b.hi)])) (hx : H x = some (.ins C dy [])) : a ≠ x := fun z => by
  rw [z, hx] at h
  cases h
def spWInit (K : PySem.W.Frag) : Sp := fun vs H Q _ => ∃ (x dx : Addr) (st gl bv pl : V) (p q : P3) (left : Int) (b : Bnd) (ns : List Str), vs = [.ref x, st, gl, .int left, bv, pl, .non] ∧ H x = some (.ins (WC K) dx []) ∧ IsP H st p ∧ IsP H gl q ∧ IsB K H bv b ∧ IsNames H pl ns ∧ NamesOk ns ∧
  b.has p.h = true ∧ b.has q.h = true ∧ 0 ≤ left ∧ ∀ (H' : Hp) (LA LE : Addr), SameX x H H' → H LA = none → H LE = none → AtW K H' x LA LE ⟨b, ns, ⟨p, q, left, 0⟩, []⟩ → Q .non H'
theorem scWalkerInit : FnScope ["self", "state", "goal", "budget", "band", "players", "observer"] ["self", "state", "goal", "budget", "band", "players", "observer"] (defScope sWalkerInit) := ⟨rfl, rfl, rfl, by decide +kernel, rfl, by decide +kernel, by decide +kernel⟩
include T in
theorem ok_Walker : MakK P w K mg base 4 "Walker" (WC K) (spWInit K) 3 ["band", "players"] (fun vs zs => vs ++ zs ++ [.non]) := by
  obtain ⟨fd, F⟩ := T.d_WalkerInit
  have kb : ∃ mv : List Value, KBn K fd ["self", "state", "goal", "budget", "band", "players", "observer"] 4 ["band", "players"] (fun us ws => us ++ ws ++ mv) (fun vs zs => vs ++ zs ++ [.non]) := by
    refine F.kbinds0 4 ["band", "players"] [("observer", .non)] (fun us mv ws => us ++ ws ++ mv) (by simp) (by simp) (fun r1 r2 r3 => (r1.append r3).append r2) ?_
    intro D doc pm an cdv ct us mv ws h1 h2 h3
    match us, mv, ws, h1, h2, h3 with
    | [_, _, _, _], [_], [_, _], _, _, _ => exact ⟨_, _, _, _, _, _, rfl, rfl, rfl⟩
  obtain ⟨mv, kb⟩ := kb
  refine ⟨_, fd, ["self", "state", "goal", "budget", "band", "players", "observer"], _, T.k_Walker, F.ok scWalkerInit (fun vs H Q E h => ?_) (fun cdv A outer s H vs Q E hr h => ⟨_, PSs.nox (pss_cons (ps_expr (pe_c (ok_check_state T) hr (by decide) (pa_cons (pv 1) pa_nil)))
      (pss_cons (ps_expr (pe_c (ok_check_state T) hr (by decide) (pa_cons (pv 2) pa_nil)))
      (pss_cons (ps_expr (pe_c (ok_check_integer T).1 hr (by decide) (pa_cons (pv 3) (pa_cons pe_int pa_nil))))
      (pss_cons (ps_fld (pv 0) (pe_c (ok_to_band T) hr (by decide) (pa_cons (pv 4) pa_nil)) rfl)
      (pss_cons (ps_if (pt_not (pt_val (pe_c (ok_are_players T) hr (by decide) (pa_cons (pv 5) pa_nil)))) (pss_one ps_never) pss_nil)
      (pss_cons (ps_expr (pe_c (ok_check_height T) hr (by decide) (pa_cons (pe_ix ix_tup (pv 1) pe_int (fun _ _ => rfl)) (pa_cons (pe_fld (pv 0) rfl) pa_nil))))
      (pss_cons (ps_expr (pe_c (ok_check_height T) hr (by decide) (pa_cons (pe_ix ix_tup (pv 2) pe_int (fun _ _ => rfl)) (pa_cons (pe_fld (pv 0) rfl) pa_nil))))
      (pss_cons (ps_fld (pv 0) (pv 5) rfl)
      (pss_cons (ps_fld (pv 0) (pv 6) rfl)
      (pss_cons (ps_fld (pv 0) pe_bl rfl)
      (pss_cons (ps_fld (pv 0) (pv 1) rfl)
      (pss_cons (ps_fld (pv 0) (pe_tup (pa_cons (pv 1) (pa_cons (pv 2) (pa_cons (pv 3) (pa_cons pe_int pa_nil))))) rfl)
      (pss_cons (ps_fld (pv 0) (pe_lst pa_nil) rfl)
      (pss_one (ps_fld (pv 0) (pe_lst pa_nil) rfl))))))))))))))), ?_⟩),
    T.g_Walker, kb⟩
  · obtain ⟨x, dx, st, gl, bv, pl, p, q, left, b, ns, rfl, _⟩ := h; rfl
  · obtain ⟨x, dx, st, gl, bv, pl, p, q, left, b, ns, rfl, hx, hp, hq, hb, hn, nok, b1, b2, hleft, h⟩ := h
    walk_at "rd"
    refine ⟨_, p, rfl, hp, fun H1 s1 => ?_⟩
    walk_at "rd"
    refine ⟨_, q, rfl, hq.mono s1, fun H2 s2 => ?_⟩
    have s12 := s1.trans s2
    walk_at "rd"
    refine ⟨.inr ⟨_, rfl, hleft⟩, ?_⟩
    walk_at "rd"
    refine ⟨_, b, rfl, hb.mono s12, ?_⟩
    walk_at "rd"
    have hx2 := s12 _ _ hx
    obtain ⟨ba, bdx, rfl, hb0⟩ := hb
    obtain ⟨sa, rfl, hsa⟩ := hp
    obtain ⟨ga, rfl, hga⟩ := hq
    obtain ⟨na, rfl, hna⟩ := hn
    have nba : ba ≠ x := IsB.ne hb0 hx
    have nsa : sa ≠ x := ne_ins hx hsa fun _ _ _ z => nomatch z
    have nga : ga ≠ x := ne_ins hx hga fun _ _ _ z => nomatch z
    have nna : na ≠ x := ne_ins hx hna fun _ _ _ z => nomatch z
    have s3 : SameX x H (upd H2 x (.ins (WC K) dx (putF "limits" (.ref ba) []))) := (SameX.of s12).trans SameX.upd
    refine ⟨_, _, _, _, rfl, hx2, T.c_Walker, T.n_Walker_limits, by show 0 < 1000; decide, ?_⟩
    refine ⟨_, rfl, _, ns, rfl, ⟨na, rfl, s3 _ _ nna hna⟩, nok, fun H4 s4 => ?_⟩
    have s34 : SameX x H H4 := s3.trans (SameX.of s4)
    have hx4 : H4 x = some (.ins (WC K) dx [("limits", .ref ba)]) := s4 _ _ upd_same
    have hsa4 := s34 _ _ nsa hsa
    have hga4 := s34 _ _ nga hga
    have hba4 := s34 _ _ nba hb0
    walk_at "rd"
    refine ⟨_, _, b, rfl, ⟨ba, bdx, rfl, hba4⟩, fun _ => ?_, fun z => absurd b1 (by rw [z]; simp)⟩
    walk_at "rd"
    refine ⟨_, _, b, rfl, ⟨ba, bdx, rfl, hba4⟩, fun _ => ?_, fun z => absurd b2 (by rw [z]; simp)⟩
    iterate 2 walk_at "r1"
    refine ⟨_, _, _, _, rfl, hx4, T.c_Walker, T.n_Walker_own_players, by show 1 < 1000; decide, ?_⟩
    iterate 2 walk_at "r1"
    refine ⟨_, _, _, _, rfl, upd_same, T.c_Walker, T.n_Walker_own_observer, by show 2 < 1000; decide, ?_⟩
    iterate 1 walk_at "r1"
    refine ⟨_, _, _, _, rfl, upd_same, T.c_Walker, T.n_Walker_is_observed, by show 3 < 1000; decide, ?_⟩
    iterate 2 walk_at "r1"
    refine ⟨_, _, _, _, rfl, upd_same, T.c_Walker, T.n_Walker_first_state, by show 4 < 1000; decide, ?_⟩
    iterate 3 walk_at "r1"
    refine ⟨l4, fun ta hta => ?_⟩
    have nx : x ≠ ta := ne_none upd_same hta
    have s6 := ((((s34.trans SameX.upd).trans SameX.upd).trans SameX.upd).trans SameX.upd).trans (SameX.of (same_upd (o := .tup [.ref sa, .ref ga, .int left, .int 0]) hta))
    refine ⟨_, rfl, _, _, _, _, rfl, by rw [upd_ne nx]; exact upd_same, T.c_Walker, T.n_Walker_situation, by show 5 < 1000; decide, ?_⟩
    refine ⟨l0, fun LA hLA => ?_⟩
    have nxA : x ≠ LA := ne_none upd_same hLA
    have nta : ta ≠ LA := ne_none (show _ = some (HO.tup [.ref sa, .ref ga, .int left, .int 0]) by rw [upd_ne nx.symm]; exact upd_same) hLA
    have s7 := (s6.trans SameX.upd).trans (SameX.of (same_upd (o := .lst []) hLA))
    refine ⟨_, rfl, _, _, _, _, rfl, by rw [upd_ne nxA]; exact upd_same, T.c_Walker, T.n_Walker_own_actions, by show 6 < 1000; decide, ?_⟩
    refine ⟨l0, fun LE hLE => ?_⟩
    have nxE : x ≠ LE := ne_none upd_same hLE
    have nAE : LA ≠ LE := ne_none (show _ = some (HO.lst []) by rw [upd_ne nxA.symm]; exact upd_same) hLE
    have ntE : ta ≠ LE := ne_none (show _ = some (HO.tup [.ref sa, .ref ga, .int left, .int 0]) by rw [upd_ne nx.symm, upd_ne nta, upd_ne nx.symm]; exact upd_same) hLE
    have s8 := (s7.trans SameX.upd).trans (SameX.of (same_upd (o := .lst []) hLE))
    refine ⟨_, rfl, _, _, _, _, rfl, by rw [upd_ne nxE]; exact upd_same, T.c_Walker, T.n_Walker_earlier, by show 7 < 1000; decide, ?_⟩
    have s9 := s8.trans (SameX.upd (o := .ins (WC K) dx (wFs (.ref ba) (.ref na) (.ref sa) (.ref ta) LA LE)))
    have fr : ∀ {l : Addr} {H' : Hp}, SameX x H H' → H' l = none → x ≠ l → H l = none := fun {l H'} s e n => by
      cases z : H l with
      | none => rfl
      | some o => rw [s _ _ (Ne.symm n) z] at e; cases e
    refine h _ LA LE s9 (fr (s6.trans SameX.upd) hLA nxA) (fr (s7.trans SameX.upd) hLE nxE) ⟨⟨dx, .ref ba, .ref na, .ref sa, .ref ta, [], [], upd_same, ⟨ba, bdx, rfl, s9 _ _ nba hb0⟩, ⟨na, rfl, s9 _ _ nna hna⟩, ⟨sa, rfl, s9 _ _ nsa hsa⟩,
      ⟨ta, .ref sa, .ref ga, rfl, ?_, ⟨sa, rfl, s9 _ _ nsa hsa⟩, ⟨ga, rfl, s9 _ _ nga hga⟩⟩, ?_, .nil, ?_, .nil⟩, nAE⟩
    · rw [upd_ne nx.symm, upd_ne ntE, upd_ne nx.symm, upd_ne nta, upd_ne nx.symm]; exact upd_same
    · rw [upd_ne nxA.symm, upd_ne nAE, upd_ne nxA.symm]; exact upd_same
    · rw [upd_ne nxE.symm]; exact upd_same
end
end Hs
end

/-! HsD11 -/
section
set_option Elab.async false
set_option linter.all false
set_option maxRecDepth 100000
set_option maxHeartbeats 4000000
namespace Hs
open PySem PySem.Spec PyProof.Rows L2
local macro_rules | `(tactic| walk_at "ix") => `(tactic| refine ⟨_, _, _, _, rfl, rfl, SqT.of (by assumption), (by first | exact at0 | exact at1 | exact at2 | exact at3), ?_⟩)
local macro_rules | `(tactic| walk_at "fl") => `(tactic| refine ⟨_, _, _, _, _, rfl, (by assumption), (by first | exact Tx.c_Band (by assumption) | exact Tx.c_Extents (by assumption) | exact Tx.c_Walker (by assumption)), (by first
  | exact Tx.n_Band_low_end (by assumption) | exact Tx.n_Band_high_end (by assumption) | exact Tx.n_Extents_width (by assumption) | exact Tx.n_Extents_climb (by assumption) | exact Tx.n_Extents_depth (by assumption) | exact Tx.n_Extents_base (by assumption) | exact Tx.n_Extents_limit (by assumption)
  | exact Tx.n_Walker_limits (by assumption) | exact Tx.n_Walker_own_players (by assumption) | exact Tx.n_Walker_own_observer (by assumption) | exact Tx.n_Walker_is_observed (by assumption) | exact Tx.n_Walker_first_state (by assumption) | exact Tx.n_Walker_situation (by assumption) | exact Tx.n_Walker_own_actions (by assumption) | exact Tx.n_Walker_earlier (by assumption)), rfl, ?_⟩)
local macro_rules | `(tactic| walk_at "r1") => `(tactic| first | refine ⟨_, rfl, ?_⟩ | refine ⟨_, _, rfl, rfl, ?_⟩ | refine ⟨_, _, rfl, ?_⟩ | walk_at "ix" | walk_at "fl")
local macro_rules | `(tactic| walk_at "rd") => `(tactic| repeat walk_at "r1")
local macro_rules | `(tactic| walk_at "b") => `(tactic| first | (exact fun _ _ _ _ _ _ us hl => match us, hl with | [_], _ => rfl) | (exact fun _ _ _ _ _ _ us hl => match us, hl with | [_, _], _ => rfl) | (exact fun _ _ _ _ _ _ us hl => match us, hl with | [_, _, _], _ => rfl) | (exact fun _ _ _ _ _ _ us hl => match us, hl with | [_, _, _, _], _ => rfl))
section
variable {P : Program} {w : World} {K : PySem.W.Frag} {mg : Str → Option Value} {base : Heap} (T : Tx K mg)
/-! ### the walker's small methods, record -/
theorem AtW.noTup {K : PySem.W.Frag} {H : Hp} {a LA LE : Addr} {W : Wk} (h : AtW K H a LA LE W) : NoTup H [a, LA, LE] := by
  obtain ⟨⟨dx, lim, pl, st0, sit, xa, xe, h1, h2, h3, h4, h5, h6, h7, h8, h9⟩, n⟩ := h
  intro l hl xs e
  simp only [List.mem_cons, List.not_mem_nil, or_false] at hl
  rcases hl with rfl | rfl | rfl
  · rw [h1] at e; cases e
  · rw [h6] at e; cases e
  · rw [h8] at e; cases e
theorem AtW.nes {K : PySem.W.Frag} {H : Hp} {a LA LE : Addr} {W : Wk} (h : AtW K H a LA LE W) : a ≠ LA ∧ a ≠ LE ∧ LA ≠ LE := by
  obtain ⟨⟨dx, lim, pl, st0, sit, xa, xe, h1, h2, h3, h4, h5, h6, h7, h8, h9⟩, n⟩ := h
  refine ⟨fun z => ?_, fun z => ?_, n⟩
  · rw [z, h6] at h1; cases h1
  · rw [z, h8] at h1; cases h1
/-- a band is no walker -/
theorem AtW.band {K : PySem.W.Frag} {H H' : Hp} {a LA LE : Addr} {W : Wk} {v : V} {b : Bnd} (h : AtW K H a LA LE W) (hb : IsB K H v b) (s : SameL [a, LA, LE] H H') : IsB K H' v b := by
  obtain ⟨⟨dx, lim, pl, st0, sit, xa, xe, h1, h2, h3, h4, h5, h6, h7, h8, h9⟩, n⟩ := h
  obtain ⟨c, dc, rfl, hc⟩ := hb
  refine ⟨c, dc, rfl, s _ _ (fun hl => ?_) hc⟩
  simp only [List.mem_cons, List.not_mem_nil, or_false] at hl
  rcases hl with rfl | rfl | rfl
  · rw [h1] at hc
    have := Option.some.inj hc
    injection this with _ _ e
    cases e
  · rw [h6] at hc; cases hc
  · rw [h8] at hc; cases hc
def spW0 (K : PySem.W.Frag) : Sp := fun vs H Q _ => ∃ (a LA LE : Addr) (W : Wk), vs = [.ref a] ∧ AtW K H a LA LE W ∧ Q .non H
theorem scWalkerCheckFree : FnScope ["self"] ["self"] (defScope sWalkerCheckFree) := ⟨rfl, rfl, rfl, by decide +kernel, rfl, by decide +kernel, by decide +kernel⟩
include T in
theorem ok_Walker_check_free : Met P w K mg base 1 (WC K) "check_free" (spW0 K) [] := by
  obtain ⟨fd, F⟩ := T.d_WalkerCheckFree
  refine ⟨_, fd, ["self"], [], T.c_Walker, T.m_Walker_check_free, F.ok scWalkerCheckFree (fun vs H Q E h => ?_) (fun cdv A outer s H vs Q E hr h => ⟨_, PSs.nox (pss_one (ps_if (pt_val (pe_fld (pv 0) rfl)) pss_never pss_nil)), ?_⟩),
    F.bindsN (by walk_at "b"), .nil⟩
  · obtain ⟨a, _, _, _, rfl, _⟩ := h; rfl
  · obtain ⟨a, LA, LE, W, rfl, ⟨⟨dx, lim, pl, st0, sit, xa, xe, h1, h2, h3, h4, h5, h6, h7, h8, h9⟩, n⟩, h⟩ := h
    unfold wFs at h1
    walk_at "rd"
    exact h
theorem scWalkerNotify : FnScope ["self"] ["self"] (defScope sWalkerNotify) := ⟨rfl, rfl, rfl, by decide +kernel, rfl, by decide +kernel, by decide +kernel⟩
include T in
theorem ok_Walker_notify : Met P w K mg base 1 (WC K) "notify" (spW0 K) [] := by
  obtain ⟨fd, F⟩ := T.d_WalkerNotify
  refine ⟨_, fd, ["self"], [], T.c_Walker, T.m_Walker_notify, F.ok scWalkerNotify (fun vs H Q E h => ?_) (fun cdv A outer s H vs Q E hr h => ⟨_, PSs.nox (pss_cons (ps_if (pt_cmp (pc_isN (pe_fld (pv 0) rfl))) (pss_one ps_retN) pss_nil)
      pss_never), ?_⟩),
    F.bindsN (by walk_at "b"), .nil⟩
  · obtain ⟨a, _, _, _, rfl, _⟩ := h; rfl
  · obtain ⟨a, LA, LE, W, rfl, ⟨⟨dx, lim, pl, st0, sit, xa, xe, h1, h2, h3, h4, h5, h6, h7, h8, h9⟩, n⟩, h⟩ := h
    unfold wFs at h1
    walk_at "rd"
    exact h
def spWSt (K : PySem.W.Frag) : Sp := fun vs H Q _ => ∃ (a LA LE : Addr) (W : Wk), vs = [.ref a] ∧ AtW K H a LA LE W ∧ ∀ v, IsP H v W.cur.st → Q v H
theorem scWalkerCurrentState : FnScope ["self"] ["self"] (defScope sWalkerCurrentState) := ⟨rfl, rfl, rfl, by decide +kernel, rfl, by decide +kernel, by decide +kernel⟩
include T in
theorem ok_Walker_current_state : Met P w K mg base 1 (WC K) "current_state" (spWSt K) [] := by
  obtain ⟨fd, F⟩ := T.d_WalkerCurrentState
  refine ⟨_, fd, ["self"], [], T.c_Walker, T.m_Walker_current_state, F.ok scWalkerCurrentState (fun vs H Q E h => ?_) (fun cdv A outer s H vs Q E hr h => ⟨_, PSs.nox (pss_one (ps_ret (pe_ix ix_tup (pe_fld (pv 0) rfl) pe_int (fun _ _ => rfl)))), ?_⟩),
    F.bindsN (by walk_at "b"), .nil⟩
  · obtain ⟨a, _, _, _, rfl, _⟩ := h; rfl
  · obtain ⟨a, LA, LE, W, rfl, ⟨⟨dx, lim, pl, st0, sit, xa, xe, h1, h2, h3, h4, ⟨sa, v1, v2, rfl, hs, p1, p2⟩, h6, h7, h8, h9⟩, n⟩, h⟩ := h
    unfold wFs at h1
    walk_at "rd"
    exact h _ p1
def spWGl (K : PySem.W.Frag) : Sp := fun vs H Q _ => ∃ (a LA LE : Addr) (W : Wk), vs = [.ref a] ∧ AtW K H a LA LE W ∧ ∀ v, IsP H v W.cur.gl → Q v H
theorem scWalkerCurrentGoal : FnScope ["self"] ["self"] (defScope sWalkerCurrentGoal) := ⟨rfl, rfl, rfl, by decide +kernel, rfl, by decide +kernel, by decide +kernel⟩
include T in
theorem ok_Walker_current_goal : Met P w K mg base 1 (WC K) "current_goal" (spWGl K) [] := by
  obtain ⟨fd, F⟩ := T.d_WalkerCurrentGoal
  refine ⟨_, fd, ["self"], [], T.c_Walker, T.m_Walker_current_goal, F.ok scWalkerCurrentGoal (fun vs H Q E h => ?_) (fun cdv A outer s H vs Q E hr h => ⟨_, PSs.nox (pss_one (ps_ret (pe_ix ix_tup (pe_fld (pv 0) rfl) pe_int (fun _ _ => rfl)))), ?_⟩),
    F.bindsN (by walk_at "b"), .nil⟩
  · obtain ⟨a, _, _, _, rfl, _⟩ := h; rfl
  · obtain ⟨a, LA, LE, W, rfl, ⟨⟨dx, lim, pl, st0, sit, xa, xe, h1, h2, h3, h4, ⟨sa, v1, v2, rfl, hs, p1, p2⟩, h6, h7, h8, h9⟩, n⟩, h⟩ := h
    unfold wFs at h1
    walk_at "rd"
    exact h _ p2
def spWBud (K : PySem.W.Frag) : Sp := fun vs H Q _ => ∃ (a LA LE : Addr) (W : Wk), vs = [.ref a] ∧ AtW K H a LA LE W ∧ Q (.int W.cur.left) H
theorem scWalkerBudget : FnScope ["self"] ["self"] (defScope sWalkerBudget) := ⟨rfl, rfl, rfl, by decide +kernel, rfl, by decide +kernel, by decide +kernel⟩
include T in
theorem ok_Walker_budget : Met P w K mg base 1 (WC K) "budget" (spWBud K) [] := by
  obtain ⟨fd, F⟩ := T.d_WalkerBudget
  refine ⟨_, fd, ["self"], [], T.c_Walker, T.m_Walker_budget, F.ok scWalkerBudget (fun vs H Q E h => ?_) (fun cdv A outer s H vs Q E hr h => ⟨_, PSs.nox (pss_one (ps_ret (pe_ix ix_tup (pe_fld (pv 0) rfl) pe_int (fun _ _ => rfl)))), ?_⟩),
    F.bindsN (by walk_at "b"), .nil⟩
  · obtain ⟨a, _, _, _, rfl, _⟩ := h; rfl
  · obtain ⟨a, LA, LE, W, rfl, ⟨⟨dx, lim, pl, st0, sit, xa, xe, h1, h2, h3, h4, ⟨sa, v1, v2, rfl, hs, p1, p2⟩, h6, h7, h8, h9⟩, n⟩, h⟩ := h
    unfold wFs at h1
    walk_at "rd"
    exact h
def spWPl (K : PySem.W.Frag) : Sp := fun vs H Q _ => ∃ (a LA LE : Addr) (W : Wk) (j : Nat) (nm : Str), vs = [.ref a] ∧ AtW K H a LA LE W ∧ W.cur.turn = (j : Int) ∧ W.ns[j]? = some nm ∧ Q (.str nm) H
theorem scWalkerPlayer : FnScope ["self"] ["self"] (defScope sWalkerPlayer) := ⟨rfl, rfl, rfl, by decide +kernel, rfl, by decide +kernel, by decide +kernel⟩
include T in
theorem ok_Walker_player : Met P w K mg base 1 (WC K) "player" (spWPl K) [] := by
  obtain ⟨fd, F⟩ := T.d_WalkerPlayer
  refine ⟨_, fd, ["self"], [], T.c_Walker, T.m_Walker_player, F.ok scWalkerPlayer (fun vs H Q E h => ?_) (fun cdv A outer s H vs Q E hr h => ⟨_, PSs.nox (pss_one (ps_ret (pe_ix ix_tup (pe_fld (pv 0) rfl) (pe_ix ix_tup (pe_fld (pv 0) rfl) pe_int (fun _ _ => rfl)) (fun _ _ => rfl)))), ?_⟩),
    F.bindsN (by walk_at "b"), .nil⟩
  · obtain ⟨a, _, _, _, _, _, rfl, _⟩ := h; rfl
  · obtain ⟨a, LA, LE, W, j, nm, rfl, ⟨⟨dx, lim, pl, st0, sit, xa, xe, h1, h2, ⟨na, rfl, hn⟩, h4, ⟨sa, v1, v2, rfl, hs, p1, p2⟩, h6, h7, h8, h9⟩, n⟩, hj, hnm, h⟩ := h
    unfold wFs at h1
    rw [hj] at hs
    iterate 5 walk_at "r1"
    refine ⟨_, _, _, _, rfl, rfl, SqT.of hn, atI_nat (j := j) (v := .str nm) ?_, h⟩
    rw [List.getElem?_map, hnm] <;> rfl
def spWActs (K : PySem.W.Frag) : Sp := fun vs H Q _ => ∃ (a LA LE : Addr) (W : Wk), vs = [.ref a] ∧ AtW K H a LA LE W ∧ ∀ (H' : Hp) (l : Addr) (xs : List V), Same H H' → H l = none → H' l = some (.lst xs) → All2 (IsAct H') xs (W.hist.map (·.1)) → Q (.ref l) H'
theorem scWalkerActions : FnScope ["self"] ["self"] (defScope sWalkerActions) := ⟨rfl, rfl, rfl, by decide +kernel, rfl, by decide +kernel, by decide +kernel⟩
include T in
theorem ok_Walker_actions : Met P w K mg base 1 (WC K) "actions" (spWActs K) [] := by
  obtain ⟨fd, F⟩ := T.d_WalkerActions
  refine ⟨_, fd, ["self"], [], T.c_Walker, T.m_Walker_actions, F.ok scWalkerActions (fun vs H Q E h => ?_) (fun cdv A outer s H vs Q E hr h => ⟨_, PSs.nox (pss_one (ps_ret (pe_callTy call_list_of rfl T.f_list boot_list (pa_cons (pe_fld (pv 0) rfl) pa_nil)))), ?_⟩),
    F.bindsN (by walk_at "b"), .nil⟩
  · obtain ⟨a, _, _, _, rfl, _⟩ := h; rfl
  · obtain ⟨a, LA, LE, W, rfl, ⟨⟨dx, lim, pl, st0, sit, xa, xe, h1, h2, h3, h4, h5, h6, h7, h8, h9⟩, n⟩, h⟩ := h
    unfold wFs at h1
    walk_at "rd"
    exact ⟨_, _, rfl, .inl (SqL.of h6), fun l hl => h _ l xa (same_upd hl) hl upd_same (h7.imp fun _ _ q => q.mono (same_upd hl))⟩
def spWLen (K : PySem.W.Frag) : Sp := fun vs H Q _ => ∃ (a LA LE : Addr) (W : Wk), vs = [.ref a] ∧ AtW K H a LA LE W ∧ Q (.int (W.hist.length : Nat)) H
theorem scWalkerLen : FnScope ["self"] ["self"] (defScope sWalkerLen) := ⟨rfl, rfl, rfl, by decide +kernel, rfl, by decide +kernel, by decide +kernel⟩
include T in
theorem ok_Walker_len : ∃ fd, FnOk P w K mg base (L2.CX P w) 1 (He.ma K (WC K) "__len__") fd ["self"] (spWLen K) ∧ Binds K fd ["self"] [] := by
  obtain ⟨fd, F⟩ := T.d_WalkerLen
  refine ⟨fd, F.ok scWalkerLen (fun vs H Q E h => ?_) (fun cdv A outer s H vs Q E hr h => ⟨_, PSs.nox (pss_one (ps_ret (pe_callB call_len_seq rfl T.f_len boot_len (pa_cons (pe_fld (pv 0) rfl) pa_nil)))), ?_⟩), F.bindsN (by walk_at "b")⟩
  · obtain ⟨a, _, _, _, rfl, _⟩ := h; rfl
  · obtain ⟨a, LA, LE, W, rfl, ⟨⟨dx, lim, pl, st0, sit, xa, xe, h1, h2, h3, h4, h5, h6, h7, h8, h9⟩, n⟩, h⟩ := h
    unfold wFs at h1
    walk_at "rd"
    refine ⟨_, _, rfl, .inl (SqL.of h6), ?_⟩
    rw [h7.len, List.length_map]
    exact h
def Wk.put (W : Wk) (x : Act) (s : Sit) : Wk := { W with hist := W.hist ++ [(x, s)] }
theorem Wk.put_cur (W : Wk) (x : Act) (s : Sit) : (W.put x s).cur = s := by
  unfold Wk.put Wk.cur
  rw [List.getLast?_concat] <;> rfl
theorem last_split {α : Type} {l : List α} {x : α} (h : l.getLast? = some x) : l = l.dropLast ++ [x] := by
  rcases List.eq_nil_or_concat l with rfl | ⟨L, b, rfl⟩
  · cases h
  · rw [List.concat_eq_append] at *
    rw [List.getLast?_concat] at h
    cases h
    rw [List.dropLast_concat]
theorem Wk.put_early (W : Wk) (x : Act) (s : Sit) : (W.put x s).sits.dropLast = W.sits.dropLast ++ [W.cur] := by
  have e : (W.put x s).sits = W.sits ++ [s] := by
    unfold Wk.put Wk.sits
    rw [List.map_append] <;> rfl
  rw [e, List.dropLast_concat]
  exact last_split W.sits_cur
def spRecord (K : PySem.W.Frag) : Sp := fun vs H Q _ => ∃ (a LA LE : Addr) (W : Wk) (av sv : V) (x : Act) (s : Sit), vs = [.ref a, av, sv] ∧ AtW K H a LA LE W ∧ IsAct H av x ∧ IsSit H sv s ∧ W.hist.length < 1000 ∧
  ∀ H', SameL [a, LA, LE] H H' → AtW K H' a LA LE (W.put x s) → Q .non H'
theorem scWalkerRecord : FnScope ["self", "action", "situation"] ["self", "action", "situation"] (defScope sWalkerRecord) := ⟨rfl, rfl, rfl, by decide +kernel, rfl, by decide +kernel, by decide +kernel⟩
include T in
theorem ok_Walker_record : Met P w K mg base 2 (WC K) "record" (spRecord K) [] := by
  obtain ⟨fd, F⟩ := T.d_WalkerRecord
  refine ⟨_, fd, ["self", "action", "situation"], [], T.c_Walker, T.m_Walker_record, F.ok scWalkerRecord (fun vs H Q E h => ?_) (fun cdv A outer s H vs Q E hr h => ⟨_, PSs.nox (pss_cons (ps_expr (pe_bm PySem.F.plainAttrs_list PySem.F.slot_list_append PySem.F.type_list_append mt_append (pe_fld (pv 0) rfl) (pa_cons (pe_fld (pv 0) rfl) pa_nil)))
      (pss_cons (ps_expr (pe_bm PySem.F.plainAttrs_list PySem.F.slot_list_append PySem.F.type_list_append mt_append (pe_fld (pv 0) rfl) (pa_cons (pv 1) pa_nil)))
      (pss_cons (ps_fld (pv 0) (pv 2) rfl)
      (pss_one (ps_expr (pe_mt0 (ok_Walker_notify T) hr (by decide) (pv 0))))))), ?_⟩),
    F.bindsN (by walk_at "b"), .nil⟩
  · obtain ⟨a, _, _, _, _, _, _, _, rfl, _⟩ := h; rfl
  · obtain ⟨a, LA, LE, W, av, sv, x, s, rfl, hW, hx, hs, hz, h⟩ := h
    have nt := hW.noTup
    obtain ⟨n1, n2, n3⟩ := hW.nes
    obtain ⟨⟨dx, lim, pl, st0, sit, xa, xe, h1, h2, h3, h4, h5, h6, h7, h8, h9⟩, n⟩ := id hW
    have h1' := h1
    unfold wFs at h1
    have la : xa.length < sizeLine := by rw [h7.len, List.length_map, sizeLine_eq]; omega
    have le : xe.length < sizeLine := by
      rw [h9.len, List.length_dropLast, sizeLine_eq]
      unfold Wk.sits
      rw [List.length_cons, List.length_map]; omega
    walk_at "rd"
    refine ⟨.inl ⟨rfl, _, SqL.of h8⟩, ?_⟩
    walk_at "rd"
    refine ⟨_, _, _, rfl, rfl, h8, le, ?_⟩
    have h1b : upd H LE (.lst (xe ++ [sit])) a = some (.ins (WC K) dx (wFs lim pl st0 sit LA LE)) := by rw [upd_ne n2]; exact h1'
    have h6b : upd H LE (.lst (xe ++ [sit])) LA = some (.lst xa) := by rw [upd_ne n3]; exact h6
    unfold wFs at h1b
    walk_at "rd"
    refine ⟨.inl ⟨rfl, _, SqL.of h6b⟩, ?_⟩
    walk_at "rd"
    refine ⟨_, _, _, rfl, rfl, h6b, la, ?_⟩
    have h1c : upd (upd H LE (.lst (xe ++ [sit]))) LA (.lst (xa ++ [av])) a = some (.ins (WC K) dx (wFs lim pl st0 sit LA LE)) := by rw [upd_ne n1]; exact h1b
    refine ⟨_, rfl, _, rfl, _, _, _, _, rfl, h1c, T.c_Walker, T.n_Walker_situation, by show 8 < 1000; decide, ?_⟩
    have sL : SameL [a, LA, LE] H (upd (upd (upd H LE (.lst (xe ++ [sit]))) LA (.lst (xa ++ [av]))) a (.ins (WC K) dx (wFs lim pl st0 sv LA LE))) :=
      ((SameL.upd (by simp)).trans (SameL.upd (by simp))).trans (SameL.upd (by simp))
    have fin : AtW K (upd (upd (upd H LE (.lst (xe ++ [sit]))) LA (.lst (xa ++ [av]))) a (.ins (WC K) dx (wFs lim pl st0 sv LA LE))) a LA LE (W.put x s) := by
      refine ⟨⟨dx, lim, pl, st0, sv, xa ++ [av], xe ++ [sit], upd_same, hW.band h2 sL, h3.monoL sL nt, h4.monoL sL nt, ?_, ?_, ?_, ?_, ?_⟩, n⟩
      · rw [W.put_cur]; exact hs.monoL sL nt
      · rw [upd_ne n1.symm, upd_same]
      · show All2 _ _ ((W.hist ++ [(x, s)]).map (·.1))
        rw [List.map_append]
        exact (h7.imp fun _ _ q => q.monoL sL nt).app (.one (hx.monoL sL nt))
      · rw [upd_ne n2.symm, upd_ne n3.symm, upd_same]
      · rw [W.put_early]
        exact (h9.imp fun _ _ q => q.monoL sL nt).app (.one (h5.monoL sL nt))
    refine ⟨_, rfl, _, _, _, rfl, upd_same, rfl, ?_⟩
    exact ⟨a, LA, LE, W.put x s, rfl, fin, h _ sL fin⟩
end
end Hs
end

/-! HsD12 -/
section
set_option Elab.async false
set_option linter.all false
set_option maxRecDepth 100000
set_option maxHeartbeats 4000000
namespace Hs
open PySem PySem.Spec PyProof.Rows L2
local macro_rules | `(tactic| walk_at "ix") => `(tactic| refine ⟨_, _, _, _, rfl, rfl, SqT.of (by assumption), (by first | exact at0 | exact at1 | exact at2 | exact at3), ?_⟩)
local macro_rules | `(tactic| walk_at "fl") => `(tactic| refine ⟨_, _, _, _, _, rfl, (by assumption), (by first | exact Tx.c_Band (by assumption) | exact Tx.c_Extents (by assumption) | exact Tx.c_Walker (by assumption)), (by first
  | exact Tx.n_Band_low_end (by assumption) | exact Tx.n_Band_high_end (by assumption) | exact Tx.n_Extents_width (by assumption) | exact Tx.n_Extents_climb (by assumption) | exact Tx.n_Extents_depth (by assumption) | exact Tx.n_Extents_base (by assumption) | exact Tx.n_Extents_limit (by assumption)
  | exact Tx.n_Walker_limits (by assumption) | exact Tx.n_Walker_own_players (by assumption) | exact Tx.n_Walker_own_observer (by assumption) | exact Tx.n_Walker_is_observed (by assumption) | exact Tx.n_Walker_first_state (by assumption) | exact Tx.n_Walker_situation (by assumption) | exact Tx.n_Walker_own_actions (by assumption) | exact Tx.n_Walker_earlier (by assumption)), rfl, ?_⟩)
local macro_rules | `(tactic| walk_at "r1") => `(tactic| first | refine ⟨_, rfl, ?_⟩ | refine ⟨_, _, rfl, rfl, ?_⟩ | refine ⟨_, _, rfl, ?_⟩ | walk_at "ix" | walk_at "fl")
local macro_rules | `(tactic| walk_at "rd") => `(tactic| repeat walk_at "r1")
local macro_rules | `(tactic| walk_at "b") => `(tactic| first | (exact fun _ _ _ _ _ _ us hl => match us, hl with | [_], _ => rfl) | (exact fun _ _ _ _ _ _ us hl => match us, hl with | [_, _], _ => rfl) | (exact fun _ _ _ _ _ _ us hl => match us, hl with | [_, _, _], _ => rfl) | (exact fun _ _ _ _ _ _ us hl => match us, hl with | [_, _, _, _], _ => rfl))
section
variable {P : Program} {w : World} {K : PySem.W.Frag} {mg : Str → Option Value} {base : Heap} (T : Tx K mg)
/-! ### height_outside of one run -/
def spHOut (K : PySem.W.Frag) : Sp := fun vs H Q _ => ∃ (n : Int) (l : Addr) (z : V) (d : Dir) (m : Int) (b : Bnd), vs = [.int n, .ref l, z] ∧ IsRuns H l [(d, m)] ∧ IsB K H z b ∧ b.has n = true ∧
  (b.has (n + (riseR d m).h) = true → ∀ H', Same H H' → Q .non H') ∧ (b.has (n + (riseR d m).h) = false → ∀ (H' : Hp) (o : Int), Same H H' → Q (.int o) H')
theorem Bnd.out_hi {b : Bnd} {n r : Int} (h : b.has n = true) (h2 : b.has (n + r) = false) (hr : 0 < r) : ∃ k, b.hi = some k := by
  cases e : b.hi with
  | some k => exact ⟨k, rfl⟩
  | none =>
    have : b.has (n + r) = true := Bnd.has_of (fun l hl => by have := Bnd.has_lo h hl; omega) (fun k hk => by rw [e] at hk; cases hk)
    rw [h2] at this; cases this
theorem Bnd.out_lo {b : Bnd} {n r : Int} (h : b.has n = true) (h2 : b.has (n + r) = false) (hr : ¬ 0 < r) : ∃ k, b.lo = some k := by
  cases e : b.lo with
  | some k => exact ⟨k, rfl⟩
  | none =>
    have : b.has (n + r) = true := Bnd.has_of (fun l hl => by rw [e] at hl; cases hl) (fun k hk => by have := Bnd.has_hi h hk; omega)
    rw [h2] at this; cases this
theorem scHeightOutside : FnScope ["height", "runs", "limits", "step", "length", "rise"] ["height", "runs", "limits"] (defScope sHeightOutside) := ⟨rfl, rfl, rfl, by decide +kernel, rfl, by decide +kernel, by decide +kernel⟩
include T in
theorem ok_height_outside : Cal P w K mg base 2 "height_outside" (spHOut K) [] := by
  obtain ⟨fd, F⟩ := T.d_HeightOutside
  refine ⟨_, fd, ["height", "runs", "limits"], [], F.ok scHeightOutside (fun vs H Q E h => ?_) (fun cdv A outer s H vs Q E hr h => ⟨_, PSs.nox (pss_cons (ps_for PassesOwn.never rfl (pi_list (pv 1)) (pg_tup rfl (pgs_cons (pg_name (i := 3) scHeightOutside.nd rfl (by first | exact Or.inl rfl | exact Or.inr rfl)) (pgs_cons (pg_name (i := 4) scHeightOutside.nd rfl (by first | exact Or.inl rfl | exact Or.inr rfl)) pgs_nil))) (pss_cons (ps_set (i := 5) scHeightOutside.nd rfl (by first | exact Or.inl rfl | exact Or.inr rfl) (pe_ix ix_tup (pe_c (ok_run_displacement T) hr (by decide) (pa_cons (pv 3) (pa_cons (pv 4) pa_nil))) pe_int (fun _ _ => rfl)))
      (pss_cons (ps_if (pt_not (pt_val (pe_mt (ok_Band_includes T) hr (by decide) (pv 2) (pa_cons (pe_op op_add (pv 0) (pv 5)) pa_nil)))) (pss_one (ps_ret (pe_ifExp (pt_cmp (pc_gt (pv 5) pe_int)) (pe_op op_add (pe_mt0 (ok_Band_high T) hr (by decide) (pv 2)) pe_int) (pe_op op_sub (pe_mt0 (ok_Band_low T) hr (by decide) (pv 2)) pe_int)))) pss_nil)
      (pss_one (ps_aug (i := 0) scHeightOutside.nd rfl (by first | exact Or.inl rfl | exact Or.inr rfl) (pv 5) ip_add)))))
      (pss_one (ps_ret pe_non))), ?_⟩),
    T.g_height_outside, F.kp, F.bindsN (by walk_at "b"), .nil⟩
  · obtain ⟨n, l, z, d, m, b, rfl, _⟩ := h; rfl
  · obtain ⟨n, l, z, d, m, b, rfl, ⟨xs, hl, hx⟩, ⟨ba, bdx, rfl, hb⟩, hn, h1, h2⟩ := h
    refine ⟨_, rfl, _, rfl, ⟨_, SqL.of hl⟩, ?_⟩
    refine for_list (xs := xs) (fun i σ H' => Same H H' ∧ (i = 0 → ∃ u v w, σ = [some (.int n), some (.ref l), some (.ref ba), u, v, w]) ∧ (i = 1 → b.has (n + (riseR d m).h) = true)) ⟨Same.refl H, fun _ => ⟨_, _, _, rfl⟩, fun z => nomatch z⟩ (fun i σ H' _ q => SqL.of (q.1 _ _ hl)) (fun i x σ H' hxi q => ?_) (fun σ H' q => ?_)
    · obtain ⟨s3, hs0, _⟩ := q
      have hl1 : i < 1 := by
        have := (List.getElem?_eq_some_iff.mp hxi).1
        rw [hx.len] at this
        simpa using this
      have i0 : i = 0 := by omega
      subst i0
      obtain ⟨u, v, w', rfl⟩ := hs0 rfl
      obtain ⟨⟨d', m'⟩, hr', hxr⟩ := hx.at_ hxi
      have er : (d, m) = (d', m') := by simpa using hr'
      cases er
      obtain ⟨a, rfl, ha⟩ := hxr.mono s3
      refine ⟨_, _, rfl, SqT.of ha, rfl, _, _, rfl, _, _, rfl, rfl, ?_⟩
      walk_at "rd"
      refine fun H4 r4 s4 ⟨pa, er, hpa⟩ => ?_
      subst er
      have s34 := s3.trans s4
      have hb4 := s34 _ _ hb
      walk_at "rd"
      refine ⟨_, _, _, rfl, hb4, rfl, ?_⟩
      walk_at "rd"
      refine ⟨_, b, _, rfl, ⟨ba, bdx, rfl, hb4⟩, ?_⟩
      cases hh : b.has (n + (riseR d m).h) with
      | true =>
        walk_at "rd"
        exact ⟨s34, fun z => (by cases z), fun _ => rfl⟩
      | false =>
        walk_at "rd"
        refine ite2 (fun z => ?_) fun z => ?_
        · have z' : 0 < (riseR d m).h := of_decide_eq_true z
          obtain ⟨k, hk⟩ := Bnd.out_hi hn hh z'
          walk_at "rd"
          refine ⟨_, _, _, rfl, hb4, rfl, ?_⟩
          refine ⟨_, b, rfl, ⟨ba, bdx, rfl, hb4⟩, ?_⟩
          rw [hk]
          walk_at "rd"
          exact h2 hh H4 _ s34
        · have z' : ¬ 0 < (riseR d m).h := fun q => z (decide_eq_true q)
          obtain ⟨k, hk⟩ := Bnd.out_lo hn hh z'
          walk_at "rd"
          refine ⟨_, _, _, rfl, hb4, rfl, ?_⟩
          refine ⟨_, b, rfl, ⟨ba, bdx, rfl, hb4⟩, ?_⟩
          rw [hk]
          walk_at "rd"
          exact h2 hh H4 _ s34
    · obtain ⟨s3, _, hh⟩ := q
      rw [hx.len] at hh
      exact h1 (hh rfl) H' s3
/-! ### advance -/
def XCls (K : PySem.W.Frag) (cls : Value) : Prop := ∃ x ∈ excNames, cls = .ref (He.ga K x)
def advOk (W : Wk) (nm pl : Str) (d : Dir) (n : Int) : Prop := nm = pl ∧ W.b.has (W.cur.st.h + (riseR d n).h) = true ∧ n ≤ W.cur.left
def advSit (W : Wk) (d : Dir) (n : Int) : Sit := ⟨moveR W.cur.st d n, W.cur.gl, W.cur.left - n, (W.cur.turn + 1) % (W.ns.length : Nat)⟩
def spAdv (K : PySem.W.Frag) : Sp := fun vs H Q E => ∃ (a LA LE : Addr) (W : Wk) (nm pl : Str) (d : Dir) (n : Int) (j : Nat), vs = [.ref a, .str nm, .str d.t, .int n] ∧ AtW K H a LA LE W ∧ W.cur.turn = (j : Int) ∧ W.ns[j]? = some pl ∧ 1 ≤ n ∧ W.b.has W.cur.st.h = true ∧
  CMulW W.cur.st.h (riseR d n).x ∧ W.hist.length < 1000 ∧ (advOk W nm pl d n → ∀ H', SameL [a, LA, LE] H H' → AtW K H' a LA LE (W.put (.adv nm d n) (advSit W d n)) → Q .non H') ∧
  (¬ advOk W nm pl d n → ∀ cls dd H', XCls K cls → Same H H' → E cls dd H')
theorem scWalkerAdvance : FnScope ["self", "player", "step", "repeat", "state", "goal", "budget", "turn", "outside", "later", "situation"] ["self", "player", "step", "repeat"] (defScope sWalkerAdvance) := ⟨rfl, rfl, rfl, by decide +kernel, rfl, by decide +kernel, by decide +kernel⟩
include T in
theorem ok_Walker_advance : MetK P w K mg base 3 (WC K) "advance" (spAdv K) 2 ["repeat"] (fun vs zs => vs ++ zs) := by
  obtain ⟨fd, F⟩ := T.d_WalkerAdvance
  refine ⟨_, fd, ["self", "player", "step", "repeat"], fun us ws => us ++ ws, T.c_Walker, T.m_Walker_advance, F.ok scWalkerAdvance (fun vs H Q E h => ?_) (fun cdv A outer s H vs Q E hr h => ⟨_, pss_cons (ps_expr (pe_mt0 (ok_Walker_check_free T) hr (by decide) (pv 0)))
      (pss_cons (ps_if (PW.pt (pw_or (pt_not (pt_val (pe_callB call_isi rfl T.f_isinstance boot_isinstance (pa_cons (pv 1) (pa_cons (pe_bltn (v := .ty "str") rfl T.f_str boot_str rfl) pa_nil))))) (pw_or1 (pt_cmpR op_ne (pv 1) (pe_mt0 (ok_Walker_player T) hr (by decide) (pv 0)) (nomark _))))) (pss_one (ps_raise rfl (takes_of rfl rfl rfl rfl) (pmk_UnknownName T hr (by decide) (pa_cons (pv 1) pa_nil)))) pss_nil)
      (pss_cons (ps_if (pt_not (pt_val (pe_c (ok_is_step T) hr (by decide) (pa_cons (pv 2) pa_nil)))) pss_never pss_nil)
      (pss_cons (ps_expr (pe_c (ok_check_integer T).1 hr (by decide) (pa_cons (pv 3) (pa_cons pe_int pa_nil))))
      (pss_cons (ps_asg (pe_fld (pv 0) rfl) (pg_tup rfl (pgs_cons (pg_name (i := 4) scWalkerAdvance.nd rfl (by first | exact Or.inl rfl | exact Or.inr rfl)) (pgs_cons (pg_name (i := 5) scWalkerAdvance.nd rfl (by first | exact Or.inl rfl | exact Or.inr rfl)) (pgs_cons (pg_name (i := 6) scWalkerAdvance.nd rfl (by first | exact Or.inl rfl | exact Or.inr rfl)) (pgs_cons (pg_name (i := 7) scWalkerAdvance.nd rfl (by first | exact Or.inl rfl | exact Or.inr rfl)) pgs_nil))))))
      (pss_cons (ps_set (i := 8) scWalkerAdvance.nd rfl (by first | exact Or.inl rfl | exact Or.inr rfl) (pe_c (ok_height_outside T) hr (by decide) (pa_cons (pe_ix ix_tup (pv 4) pe_int (fun _ _ => rfl)) (pa_cons (pe_lst (pa_cons (pe_tup (pa_cons (pv 2) (pa_cons (pv 3) pa_nil))) pa_nil)) (pa_cons (pe_fld (pv 0) rfl) pa_nil)))))
      (pss_cons (ps_if (pt_cmp (pc_notN (pv 8))) (pss_one (ps_raise rfl (takes_of rfl rfl rfl rfl) (pmk_OutsideBand T hr (by decide) (pa_cons (pv 8) pa_nil)))) pss_nil)
      (pss_cons (ps_if (pt_cmp (pc_lt (pv 6) (pv 3))) (pss_one (ps_raise rfl (takes_of rfl rfl rfl rfl) (pmk_BudgetExceeded T hr (by decide) (pa_cons (pv 6) pa_nil)))) pss_nil)
      (pss_cons (ps_set (i := 9) scWalkerAdvance.nd rfl (by first | exact Or.inl rfl | exact Or.inr rfl) (pe_c (ok_after_runs T) hr (by decide) (pa_cons (pv 4) (pa_cons (pe_lst (pa_cons (pe_tup (pa_cons (pv 2) (pa_cons (pv 3) pa_nil))) pa_nil)) pa_nil))))
      (pss_cons (ps_set (i := 10) scWalkerAdvance.nd rfl (by first | exact Or.inl rfl | exact Or.inr rfl) (pe_tup (pa_cons (pv 9) (pa_cons (pv 5) (pa_cons (pe_op op_sub (pv 6) (pv 3)) (pa_cons (pe_op op_mod (pe_op op_add (pv 7) pe_int) (pe_callB call_len_seq rfl T.f_len boot_len (pa_cons (pe_fld (pv 0) rfl) pa_nil))) pa_nil))))))
      (pss_one (ps_expr (pe_mt (ok_Walker_record T) hr (by decide) (pv 0) (pa_cons (pe_tup (pa_cons pe_str (pa_cons (pv 1) (pa_cons (pv 2) (pa_cons (pv 3) pa_nil))))) (pa_cons (pv 10) pa_nil)))))))))))))), ?_⟩),
    kbAll F 3 ["repeat"] fun kV doc pm an cdv ct us ws hl h2 => match us, ws, hl, h2 with | [_, _, _], [_], _, _ => rfl⟩
  · obtain ⟨a, _, _, _, _, _, _, _, _, rfl, _⟩ := h; rfl
  · obtain ⟨a, LA, LE, W, nm, pl, d, n, j, rfl, hW, hj, hpl, hn, hin, hm, hz, hok, hno⟩ := h
    obtain ⟨⟨dx, lim, ply, st0, sit, xa, xe, h1, h2, ⟨na, rfl, hna⟩, h4, ⟨sa, v1, v2, rfl, hs, p1, p2⟩, h6, h7, h8, h9⟩, ne⟩ := id hW
    have h1' := h1
    unfold wFs at h1
    refine ⟨_, rfl, _, _, _, rfl, h1', rfl, ?_⟩
    refine ⟨a, LA, LE, W, rfl, hW, ?_⟩
    walk_at "rd"
    refine ⟨_, _, _, _, _, rfl, .ty "str", .base (.str _), kit_ty kb_ss, ?_⟩
    walk_at "rd"
    refine ⟨_, _, _, rfl, h1', rfl, ?_⟩
    refine ⟨a, LA, LE, W, j, pl, rfl, hW, hj, hpl, rfl, _, rfl, ?_⟩
    refine ite2 (fun z => ?_) fun z => ?_
    · have ne' : ¬ nm = pl := fun e => by
        rw [e, decide_eq_true rfl] at z
        cases z
      walk_at "rd"
      intro dd hd
      exact hno (fun q => ne' q.1) _ _ _ ⟨"UnknownName", by simp [excNames], rfl⟩ (same_upd hd)
    · have e' : nm = pl := Classical.byContradiction fun q => z (by rw [decide_eq_false fun y => q (V.str.inj y)]; rfl)
      walk_at "rd"
      refine ⟨.inr ⟨_, rfl, hn⟩, ?_⟩
      walk_at "rd"
      refine ⟨_, _, rfl, SqT.of hs, rfl, _, _, rfl, _, _, rfl, _, _, rfl, _, _, rfl, rfl, ?_⟩
      obtain ⟨pa, rfl, hpa⟩ := p1
      walk_at "rd"
      refine ⟨l2, fun t ht => ?_⟩
      refine ⟨l1, fun l hl => ?_⟩
      have sA : Same H (upd (upd H t (.tup [.str d.t, .int n])) l (.lst [.ref t])) := same_upd2 (same_upd ht) hl
      have ntl : t ≠ l := ne_none upd_same hl
      have rA : IsRuns (upd (upd H t (.tup [.str d.t, .int n])) l (.lst [.ref t])) l [(d, n)] := ⟨_, upd_same, .one ⟨t, rfl, by rw [upd_ne ntl, upd_same]⟩⟩
      have h1b := sA _ _ h1
      walk_at "rd"
      refine ⟨_, l, lim, d, n, W.b, rfl, rA, h2.mono sA, hin, fun hb H3 s3 => ?_, fun hb H3 o s3 => ?_⟩
      · -- inside
        have s13 := sA.trans s3
        walk_at "rd"
        refine ite2 (fun z => ?_) fun z => ?_
        · have z' : W.cur.left < n := of_decide_eq_true z
          walk_at "rd"
          intro dd hd
          exact hno (fun q => absurd q.2.2 (by omega)) _ _ _ ⟨"BudgetExceeded", by simp [excNames], rfl⟩ (same_upd2 s13 hd)
        · have z' : ¬ W.cur.left < n := fun q => z (decide_eq_true q)
          have hpa3 := s13 _ _ hpa
          walk_at "rd"
          refine ⟨l2, fun t2 ht2 => ?_⟩
          refine ⟨l1, fun l2' hl2 => ?_⟩
          have sB : Same H3 (upd (upd H3 t2 (.tup [.str d.t, .int n])) l2' (.lst [.ref t2])) := same_upd2 (same_upd ht2) hl2
          have nt2 : t2 ≠ l2' := ne_none upd_same hl2
          have rB : IsRuns (upd (upd H3 t2 (.tup [.str d.t, .int n])) l2' (.lst [.ref t2])) l2' [(d, n)] := ⟨_, upd_same, .one ⟨t2, rfl, by rw [upd_ne nt2, upd_same]⟩⟩
          refine ⟨_, W.cur.st, l2', [(d, n)], rfl, ⟨pa, rfl, sB _ _ hpa3⟩, rB, ⟨hm, trivial⟩, fun H4 lt s4 hlt => ?_⟩
          have s14 := (s13.trans sB).trans s4
          have h1c := s14 _ _ h1
          have hnac := s14 _ _ hna
          walk_at "rd"
          refine ⟨_, _, rfl, .inr (SqT.of hnac), ?_⟩
          have hl0 : 0 < W.ns.length := by
            have := (List.getElem?_eq_some_iff.mp hpl).1
            omega
          walk_at "rd"
          refine ⟨by rw [List.length_map]; omega, l4, fun ts hts => ?_⟩
          have s15 := same_upd2 s14 (o := .tup [lt, v2, .int (W.cur.left - n), .int ((W.cur.turn + 1) % ((W.ns.map V.str).length : Nat))]) hts
          refine ⟨_, rfl, _, _, _, rfl, s15 _ _ h1', rfl, ?_⟩
          walk_at "rd"
          refine ⟨l4, fun ta hta => ?_⟩
          have s16 := same_upd2 s15 (o := .tup [.str "advance", .str nm, .str d.t, .int n]) hta
          have nst : ts ≠ ta := ne_none upd_same hta
          walk_at "rd"
          have hW5 := hW.mono s16
          refine ⟨a, LA, LE, W, .ref ta, .ref ts, .adv nm d n, advSit W d n, rfl, hW5, ⟨ta, rfl, upd_same⟩, ⟨ts, lt, v2, rfl, ?_, (hlt.mono (same_upd hts)).mono (same_upd hta), p2.mono s16⟩, hz, fun H6 s6 h6' => ?_⟩
          · rw [upd_ne nst, upd_same, List.length_map] <;> rfl
          · exact hok ⟨e', hb, by omega⟩ H6 ((SameL.of s16).trans s6) h6'
      · -- outside
        have s13 := sA.trans s3
        walk_at "rd"
        intro dd hd
        exact hno (fun q => absurd q.2.1 (by rw [hb]; simp)) _ _ _ ⟨"OutsideBand", by simp [excNames], rfl⟩ (same_upd2 s13 hd)
end
end Hs
end

/-! HsD13 -/
section
set_option Elab.async false
set_option linter.all false
set_option maxRecDepth 100000
set_option maxHeartbeats 4000000
namespace Hs
open PySem PySem.Spec PyProof.Rows L2
local macro_rules | `(tactic| walk_at "ix") => `(tactic| refine ⟨_, _, _, _, rfl, rfl, SqT.of (by assumption), (by first | exact at0 | exact at1 | exact at2 | exact at3), ?_⟩)
local macro_rules | `(tactic| walk_at "fl") => `(tactic| refine ⟨_, _, _, _, _, rfl, (by assumption), (by first | exact Tx.c_Band (by assumption) | exact Tx.c_Extents (by assumption) | exact Tx.c_Walker (by assumption)), (by first
  | exact Tx.n_Band_low_end (by assumption) | exact Tx.n_Band_high_end (by assumption) | exact Tx.n_Extents_width (by assumption) | exact Tx.n_Extents_climb (by assumption) | exact Tx.n_Extents_depth (by assumption) | exact Tx.n_Extents_base (by assumption) | exact Tx.n_Extents_limit (by assumption)
  | exact Tx.n_Walker_limits (by assumption) | exact Tx.n_Walker_own_players (by assumption) | exact Tx.n_Walker_own_observer (by assumption) | exact Tx.n_Walker_is_observed (by assumption) | exact Tx.n_Walker_first_state (by assumption) | exact Tx.n_Walker_situation (by assumption) | exact Tx.n_Walker_own_actions (by assumption) | exact Tx.n_Walker_earlier (by assumption)), rfl, ?_⟩)
local macro_rules | `(tactic| walk_at "r1") => `(tactic| first | refine ⟨_, rfl, ?_⟩ | refine ⟨_, _, rfl, rfl, ?_⟩ | refine ⟨_, _, rfl, ?_⟩ | walk_at "ix" | walk_at "fl")
local macro_rules | `(tactic| walk_at "rd") => `(tactic| repeat walk_at "r1")
local macro_rules | `(tactic| walk_at "b") => `(tactic| first | (exact fun _ _ _ _ _ _ us hl => match us, hl with | [_], _ => rfl) | (exact fun _ _ _ _ _ _ us hl => match us, hl with | [_, _], _ => rfl) | (exact fun _ _ _ _ _ _ us hl => match us, hl with | [_, _, _], _ => rfl) | (exact fun _ _ _ _ _ _ us hl => match us, hl with | [_, _, _, _], _ => rfl))
section
variable {P : Program} {w : World} {K : PySem.W.Frag} {mg : Str → Option Value} {base : Heap} (T : Tx K mg)
/-! ### change_goal, undo -/
def spGoal (K : PySem.W.Frag) : Sp := fun vs H Q E => ∃ (a LA LE : Addr) (W : Wk) (gv : V) (g : P3), vs = [.ref a, gv] ∧ AtW K H a LA LE W ∧ IsP H gv g ∧ W.hist.length < 1000 ∧
  (W.b.has g.h = true → ∀ H', SameL [a, LA, LE] H H' → AtW K H' a LA LE (W.put (.goal g) ⟨W.cur.st, g, W.cur.left, W.cur.turn⟩) → Q .non H') ∧ (W.b.has g.h = false → ∀ cls dd H', XCls K cls → Same H H' → E cls dd H')
theorem scWalkerChangeGoal : FnScope ["self", "goal", "state", "old_goal", "budget", "turn"] ["self", "goal"] (defScope sWalkerChangeGoal) := ⟨rfl, rfl, rfl, by decide +kernel, rfl, by decide +kernel, by decide +kernel⟩
include T in
theorem ok_Walker_change_goal : Met P w K mg base 4 (WC K) "change_goal" (spGoal K) [] := by
  obtain ⟨fd, F⟩ := T.d_WalkerChangeGoal
  refine ⟨_, fd, ["self", "goal"], [], T.c_Walker, T.m_Walker_change_goal, F.ok scWalkerChangeGoal (fun vs H Q E h => ?_) (fun cdv A outer s H vs Q E hr h => ⟨_, pss_cons (ps_expr (pe_mt0 (ok_Walker_check_free T) hr (by decide) (pv 0)))
      (pss_cons (ps_expr (pe_c (ok_check_state T) hr (by decide) (pa_cons (pv 1) pa_nil)))
      (pss_cons (ps_expr (pe_cE (E := E) (ok_check_height T) hr (by decide) (passes_call (takes_of rfl rfl rfl rfl) (fun _ _ _ _ h => h)) (pa_cons (pe_ix ix_tup (pv 1) pe_int (fun _ _ => rfl)) (pa_cons (pe_fld (pv 0) rfl) pa_nil))))
      (pss_cons (ps_asg (pe_fld (pv 0) rfl) (pg_tup rfl (pgs_cons (pg_name (i := 2) scWalkerChangeGoal.nd rfl (by first | exact Or.inl rfl | exact Or.inr rfl)) (pgs_cons (pg_name (i := 3) scWalkerChangeGoal.nd rfl (by first | exact Or.inl rfl | exact Or.inr rfl)) (pgs_cons (pg_name (i := 4) scWalkerChangeGoal.nd rfl (by first | exact Or.inl rfl | exact Or.inr rfl)) (pgs_cons (pg_name (i := 5) scWalkerChangeGoal.nd rfl (by first | exact Or.inl rfl | exact Or.inr rfl)) pgs_nil))))))
      (pss_one (ps_expr (pe_mt (ok_Walker_record T) hr (by decide) (pv 0) (pa_cons (pe_tup (pa_cons pe_str (pa_cons (pv 1) pa_nil))) (pa_cons (pe_tup (pa_cons (pv 2) (pa_cons (pv 1) (pa_cons (pv 4) (pa_cons (pv 5) pa_nil))))) pa_nil)))))))), ?_⟩),
    F.bindsN (by walk_at "b"), .nil⟩
  · obtain ⟨a, _, _, _, _, _, rfl, _⟩ := h; rfl
  · obtain ⟨a, LA, LE, W, gv, g, rfl, hW, hg, hz, hok, hno⟩ := h
    obtain ⟨⟨dx, lim, ply, st0, sit, xa, xe, h1, h2, h3, h4, ⟨sa, v1, v2, rfl, hs, p1, p2⟩, h6, h7, h8, h9⟩, ne⟩ := id hW
    have h1' := h1
    unfold wFs at h1
    refine ⟨_, rfl, _, _, _, rfl, h1', rfl, ?_⟩
    refine ⟨a, LA, LE, W, rfl, hW, ?_⟩
    walk_at "rd"
    refine ⟨_, g, rfl, hg, fun H1 s1 => ?_⟩
    obtain ⟨ga, rfl, hga⟩ := hg
    have h1b := s1 _ _ h1
    have hgb := s1 _ _ hga
    have hsb := s1 _ _ hs
    walk_at "rd"
    refine ⟨_, _, W.b, rfl, h2.mono s1, fun hb => ?_, fun hb d hd => ?_⟩
    · walk_at "rd"
      refine ⟨_, _, rfl, SqT.of hsb, rfl, _, _, rfl, _, _, rfl, _, _, rfl, _, _, rfl, rfl, ?_⟩
      refine ⟨_, rfl, _, _, _, rfl, s1 _ _ h1', rfl, ?_⟩
      walk_at "rd"
      refine ⟨l2, fun ta hta => ?_⟩
      have s2 := same_upd2 s1 (o := .tup [.str "goal", .ref ga]) hta
      walk_at "rd"
      refine ⟨l4, fun ts hts => ?_⟩
      have s3 := same_upd2 s2 (o := .tup [v1, .ref ga, .int W.cur.left, .int W.cur.turn]) hts
      have nas : ta ≠ ts := ne_none upd_same hts
      walk_at "rd"
      refine ⟨a, LA, LE, W, .ref ta, .ref ts, .goal g, ⟨W.cur.st, g, W.cur.left, W.cur.turn⟩, rfl, hW.mono s3, ⟨ta, .ref ga, rfl, by rw [upd_ne nas, upd_same], ⟨ga, rfl, s3 _ _ hga⟩⟩, ⟨ts, v1, .ref ga, rfl, upd_same, p1.mono s3, ⟨ga, rfl, s3 _ _ hga⟩⟩, hz, fun H6 s6 h6' => ?_⟩
      exact hok hb H6 ((SameL.of s3).trans s6) h6'
    · exact hno hb _ _ _ ⟨"OutsideBand", by simp [excNames], rfl⟩ (same_upd2 s1 hd)
theorem atI_back {α : Type} {xs : List α} {m : Nat} {v : α} (h1 : 1 ≤ m) (h2 : m ≤ xs.length) (hv : xs[xs.length - m]? = some v) : atI xs (-(m : Int)) = some v := by
  have e : ixN xs.length (-(m : Int)) = some (xs.length - m) := by
    unfold ixN
    rw [if_neg (by omega), if_pos (by omega)]
    congr 1
    omega
  unfold atI
  rw [e]
  exact hv
/-- the walker as it was with i actions -/
def Wk.upto (W : Wk) (i : Nat) : Wk := { W with hist := W.hist.take i }
theorem Wk.upto_sits (W : Wk) (i : Nat) : (W.upto i).sits = W.sits.take (i + 1) := by
  unfold Wk.upto Wk.sits
  rw [List.map_take, List.take_succ_cons]
theorem Wk.sits_len (W : Wk) : W.sits.length = W.hist.length + 1 := by unfold Wk.sits; rw [List.length_cons, List.length_map]
theorem Wk.upto_cur (W : Wk) {i : Nat} (hi : i ≤ W.hist.length) : W.sits[i]? = some (W.upto i).cur := by
  have h := (W.upto i).sits_cur
  rw [W.upto_sits, List.getLast?_eq_getElem?, List.length_take, W.sits_len] at h
  have e : min (i + 1) (W.hist.length + 1) - 1 = i := by omega
  rw [e, List.getElem?_take_of_lt (by omega)] at h
  exact h
theorem Wk.upto_early (W : Wk) {i : Nat} (hi : i ≤ W.hist.length) : (W.upto i).sits.dropLast = W.sits.dropLast.take i := by
  rw [W.upto_sits, List.dropLast_eq_take, List.length_take, W.sits_len, List.dropLast_eq_take, W.sits_len, List.take_take, List.take_take]
  congr 1
  omega
def spUndo (K : PySem.W.Frag) : Sp := fun vs H Q E => ∃ (a LA LE : Addr) (W : Wk) (m : Nat), vs = [.ref a, .int (m : Int)] ∧ AtW K H a LA LE W ∧ W.hist.length < 1000 ∧
  (1 ≤ m ∧ m ≤ W.hist.length → ∀ H', SameL [a, LA, LE] H H' → AtW K H' a LA LE (W.upto (W.hist.length - m)) → Q .non H') ∧ (¬ (1 ≤ m ∧ m ≤ W.hist.length) → ∀ cls dd H', XCls K cls → Same H H' → E cls dd H')
theorem scWalkerUndo : FnScope ["self", "number"] ["self", "number"] (defScope sWalkerUndo) := ⟨rfl, rfl, rfl, by decide +kernel, rfl, by decide +kernel, by decide +kernel⟩
include T in
theorem ok_Walker_undo : MetK P w K mg base 3 (WC K) "undo" (spUndo K) 0 ["number"] (fun vs zs => vs ++ zs) := by
  obtain ⟨fd, F⟩ := T.d_WalkerUndo
  refine ⟨_, fd, ["self", "number"], fun us ws => us ++ ws, T.c_Walker, T.m_Walker_undo, F.ok scWalkerUndo (fun vs H Q E h => ?_) (fun cdv A outer s H vs Q E hr h => ⟨_, pss_cons (ps_expr (pe_mt0 (ok_Walker_check_free T) hr (by decide) (pv 0)))
      (pss_cons (ps_if (PW.pt (pw_or (pt_not (pt_val (pe_c (ok_is_count T) hr (by decide) (pa_cons (pv 1) pa_nil)))) (pw_or (pt_cmp (pc_lt (pv 1) pe_int)) (pw_or1 (pt_cmp (pc_gt (pv 1) (pe_callB call_len_seq rfl T.f_len boot_len (pa_cons (pe_fld (pv 0) rfl) pa_nil)))))))) (pss_one (ps_raise rfl (takes_of rfl rfl rfl rfl) (pmk_NothingToUndo T))) pss_nil)
      (pss_cons (ps_fld (pv 0) (pe_ix ix_list (pe_fld (pv 0) rfl) (pe_un un_neg (pv 1)) (fun _ _ => rfl)) rfl)
      (pss_cons (ps_delTail (pe_fld (pv 0) rfl) (pe_un un_neg (pv 1)))
      (pss_cons (ps_delTail (pe_fld (pv 0) rfl) (pe_un un_neg (pv 1)))
      (pss_one (ps_expr (pe_mt0 (ok_Walker_notify T) hr (by decide) (pv 0)))))))), ?_⟩),
    kbAll F 1 ["number"] fun kV doc pm an cdv ct us ws hl h2 => match us, ws, hl, h2 with | [_], [_], _, _ => rfl⟩
  · obtain ⟨a, _, _, _, _, rfl, _⟩ := h; rfl
  · obtain ⟨a, LA, LE, W, m, rfl, hW, hz, hok, hno⟩ := h
    have nt := hW.noTup
    obtain ⟨n1, n2, n3⟩ := hW.nes
    obtain ⟨⟨dx, lim, ply, st0, sit, xa, xe, h1, h2, h3, h4, h5, h6, h7, h8, h9⟩, ne⟩ := id hW
    have h1' := h1
    unfold wFs at h1
    have lxe : xe.length = W.hist.length := by rw [h9.len, List.length_dropLast, W.sits_len]; omega
    have lxa : xa.length = W.hist.length := by rw [h7.len, List.length_map]
    refine ⟨_, rfl, _, _, _, rfl, h1', rfl, ?_⟩
    refine ⟨a, LA, LE, W, rfl, hW, ?_⟩
    walk_at "rd"
    have bad : ¬ (1 ≤ m ∧ m ≤ W.hist.length) → E (.ref (He.ga K "NothingToUndo")) none H := fun z => hno z _ _ _ ⟨"NothingToUndo", by simp [excNames], rfl⟩ (Same.refl H)
    refine ite2 (fun z => ?_) fun z => ?_
    · refine iteT (bad fun q => ?_)
      have z' := of_decide_eq_true z
      omega
    · have z' : ¬ (m : Int) < 1 := fun q => z (decide_eq_true q)
      walk_at "rd"
      refine ⟨_, _, rfl, .inl (SqL.of h8), ?_⟩
      walk_at "rd"
      refine ite2 (fun y => ?_) fun y => ?_
      · refine bad fun q => ?_
        have y' := of_decide_eq_true y
        omega
      · have y' : ¬ ((xe.length : Nat) : Int) < m := fun q => y (decide_eq_true q)
        have m1 : 1 ≤ m := by omega
        have m2 : m ≤ W.hist.length := by omega
        have hcur := W.upto_cur (i := W.hist.length - m) (by omega)
        have hcur' : W.sits.dropLast[xe.length - m]? = some (W.upto (W.hist.length - m)).cur := by
          rw [List.dropLast_eq_take, List.getElem?_take_of_lt (by rw [W.sits_len]; omega), lxe]
          exact hcur
        obtain ⟨sv, hsv, hsr⟩ := h9.at2 hcur'
        walk_at "rd"
        refine ⟨_, _, _, _, rfl, rfl, SqL.of h8, atI_back m1 (by omega) hsv, ?_⟩
        refine ⟨_, rfl, _, _, _, _, rfl, h1', T.c_Walker, T.n_Walker_situation, by show 8 < 1000; decide, ?_⟩
        have h1c : upd H a (.ins (WC K) dx (wFs lim ply st0 sv LA LE)) a = some (.ins (WC K) dx [("limits", lim), ("own_players", ply), ("own_observer", .non), ("is_observed", .bl false), ("first_state", st0), ("situation", sv), ("own_actions", .ref LA), ("earlier", .ref LE)]) := upd_same
        walk_at "rd"
        refine ⟨LE, xe, m, rfl, rfl, by rw [upd_ne n2.symm]; exact h8, m1, by omega, ?_⟩
        have h1d : upd (upd H a (.ins (WC K) dx (wFs lim ply st0 sv LA LE))) LE (.lst (xe.take (xe.length - m))) a = some (.ins (WC K) dx [("limits", lim), ("own_players", ply), ("own_observer", .non), ("is_observed", .bl false), ("first_state", st0), ("situation", sv), ("own_actions", .ref LA), ("earlier", .ref LE)]) := by
          rw [upd_ne n2]; exact h1c
        walk_at "rd"
        refine ⟨LA, xa, m, rfl, rfl, by rw [upd_ne n3, upd_ne n1.symm]; exact h6, m1, by omega, ?_⟩
        have h1e : upd (upd (upd H a (.ins (WC K) dx (wFs lim ply st0 sv LA LE))) LE (.lst (xe.take (xe.length - m)))) LA (.lst (xa.take (xa.length - m))) a = some (.ins (WC K) dx (wFs lim ply st0 sv LA LE)) := by
          rw [upd_ne n1]; exact h1d
        have sL : SameL [a, LA, LE] H (upd (upd (upd H a (.ins (WC K) dx (wFs lim ply st0 sv LA LE))) LE (.lst (xe.take (xe.length - m)))) LA (.lst (xa.take (xa.length - m)))) :=
          ((SameL.upd (by simp)).trans (SameL.upd (by simp))).trans (SameL.upd (by simp))
        have fin : AtW K (upd (upd (upd H a (.ins (WC K) dx (wFs lim ply st0 sv LA LE))) LE (.lst (xe.take (xe.length - m)))) LA (.lst (xa.take (xa.length - m)))) a LA LE (W.upto (W.hist.length - m)) := by
          refine ⟨⟨dx, lim, ply, st0, sv, xa.take (xa.length - m), xe.take (xe.length - m), h1e, hW.band h2 sL, h3.monoL sL nt, h4.monoL sL nt, hsr.monoL sL nt, upd_same, ?_, ?_, ?_⟩, ne⟩
          · show All2 _ _ ((W.hist.take (W.hist.length - m)).map (·.1))
            have t7 := (h7.imp fun _ _ q => q.monoL sL nt).take (xa.length - m)
            rw [List.map_take]
            generalize upd (upd (upd H a (.ins (WC K) dx (wFs lim ply st0 sv LA LE))) LE (.lst (xe.take (xe.length - m)))) LA (.lst (xa.take (xa.length - m))) = HH at t7 ⊢
            rw [← lxa]
            exact t7
          · rw [upd_ne n3.symm, upd_same]
          · have t9 := (h9.imp fun _ _ q => q.monoL sL nt).take (xe.length - m)
            rw [W.upto_early (by omega)]
            generalize upd (upd (upd H a (.ins (WC K) dx (wFs lim ply st0 sv LA LE))) LE (.lst (xe.take (xe.length - m)))) LA (.lst (xa.take (xa.length - m))) = HH at t9 ⊢
            rw [← lxe]
            exact t9
        refine ⟨_, rfl, _, _, _, rfl, h1e, rfl, ?_⟩
        exact ⟨a, LA, LE, W.upto (W.hist.length - m), rfl, fin, hok ⟨m1, m2⟩ _ sL fin⟩
/-! ### clone -/
theorem ins_free {H : Hp} {x dx C : Addr} (hx : H x = none) (hdx : H dx = none) : Same H (upd (upd H dx (.own x)) x (.ins C dx [])) := same_at hx (same_upd hdx)
def spClone (K : PySem.W.Frag) : Sp := fun vs H Q _ => ∃ (a LA LE : Addr) (W : Wk), vs = [.ref a] ∧ AtW K H a LA LE W ∧ NamesOk W.ns ∧ W.b.has W.s0.st.h = true ∧
  ∀ (H' : Hp) (x LA' LE' : Addr), Same H H' → H x = none → H LA' = none → H LE' = none → AtW K H' x LA' LE' W → Q (.ref x) H'
theorem scWalkerClone : FnScope ["self", "copied"] ["self"] (defScope sWalkerClone) := ⟨rfl, rfl, rfl, by decide +kernel, rfl, by decide +kernel, by decide +kernel⟩
include T in
theorem ok_Walker_clone : Met P w K mg base 6 (WC K) "clone" (spClone K) [] := by
  obtain ⟨fd, F⟩ := T.d_WalkerClone
  refine ⟨_, fd, ["self"], [], T.c_Walker, T.m_Walker_clone, F.ok scWalkerClone (fun vs H Q E h => ?_) (fun cdv A outer s H vs Q E hr h => ⟨_, PSs.nox (pss_cons (ps_set (i := 1) scWalkerClone.nd rfl (by first | exact Or.inl rfl | exact Or.inr rfl) (pe_mkK (ok_Walker T) hr (by decide) (pa_cons (pe_fld (pv 0) rfl) (pa_cons (pe_fld (pv 0) rfl) (pa_cons pe_int pa_nil))) (pk_cons (pe_fld (pv 0) rfl) (pk_cons (pe_fld (pv 0) rfl) pk_nil))))
      (pss_cons (ps_fld (pv 1) (pe_fld (pv 0) rfl) rfl)
      (pss_cons (ps_fld (pv 1) (pe_callTy call_list_of rfl T.f_list boot_list (pa_cons (pe_fld (pv 0) rfl) pa_nil)) rfl)
      (pss_cons (ps_fld (pv 1) (pe_callTy call_list_of rfl T.f_list boot_list (pa_cons (pe_fld (pv 0) rfl) pa_nil)) rfl)
      (pss_one (ps_ret (pv 1))))))), ?_⟩),
    F.bindsN (by walk_at "b"), .nil⟩
  · obtain ⟨a, _, _, _, rfl, _⟩ := h; rfl
  · obtain ⟨a, LA, LE, W, rfl, hW, nok, hin, h⟩ := h
    obtain ⟨⟨dx, lim, ply, st0, sit, xa, xe, h1, h2, h3, h4, h5, h6, h7, h8, h9⟩, ne⟩ := id hW
    have h1' := h1
    unfold wFs at h1
    walk_at "rd"
    refine ⟨rfl, rfl, fun x dxx hx hdx hne => ?_⟩
    have sI : Same H (upd (upd H dxx (.own x)) x (.ins (WC K) dxx [])) := ins_free hx hdx
    refine ⟨x, dxx, st0, st0, lim, ply, W.s0.st, W.s0.st, 0, W.b, W.ns, rfl, upd_same, h4.mono sI, h4.mono sI, h2.mono sI, h3.mono sI, nok, hin, hin, by decide, fun H2 LA0 LE0 s2 _ _ hW2 => ⟨rfl, ?_⟩⟩
    have sH2 : Same H H2 := fun b o e => s2 b o (ne_none e hx) (sI b o e)
    obtain ⟨⟨dx2, lim2, ply2, st2, sit2, xa2, xe2, g1, g2, g3, g4, g5, g6, g7, g8, g9⟩, ne2⟩ := hW2
    have nax : a ≠ x := ne_none h1' hx
    have h1b := sH2 _ _ h1
    iterate 3 walk_at "r1"
    refine ⟨_, _, _, _, rfl, g1, T.c_Walker, T.n_Walker_situation, by show 8 < 1000; decide, ?_⟩
    have s3 : Same H (upd H2 x (.ins (WC K) dx2 (wFs lim2 ply2 st2 sit LA0 LE0))) := same_at hx sH2
    have g1c : upd H2 x (.ins (WC K) dx2 (wFs lim2 ply2 st2 sit LA0 LE0)) x = some (.ins (WC K) dx2 (wFs lim2 ply2 st2 sit LA0 LE0)) := upd_same
    have h1c := s3 _ _ h1
    have h8c := s3 _ _ h8
    iterate 2 walk_at "r1"
    refine ⟨_, _, rfl, .inl (SqL.of h8c), fun e1 he1 => ?_⟩
    have nxe : x ≠ e1 := ne_none upd_same he1
    have s4 : Same H (upd (upd H2 x (.ins (WC K) dx2 (wFs lim2 ply2 st2 sit LA0 LE0))) e1 (.lst xe)) := same_upd2 s3 he1
    refine ⟨_, rfl, _, _, _, _, rfl, by rw [upd_ne nxe]; exact g1c, T.c_Walker, T.n_Walker_earlier, by show 8 < 1000; decide, ?_⟩
    have s5 : Same H (upd (upd (upd H2 x (.ins (WC K) dx2 (wFs lim2 ply2 st2 sit LA0 LE0))) e1 (.lst xe)) x (.ins (WC K) dx2 (wFs lim2 ply2 st2 sit LA0 e1))) := same_at hx s4
    have h1e := s5 _ _ h1
    have h6e := s5 _ _ h6
    iterate 2 walk_at "r1"
    refine ⟨_, _, rfl, .inl (SqL.of h6e), fun a1 ha1 => ?_⟩
    have nxa : x ≠ a1 := ne_none upd_same ha1
    have nea : e1 ≠ a1 := ne_none (show _ = some (HO.lst xe) by rw [upd_ne nxe.symm]; exact upd_same) ha1
    have s6 := same_upd2 s5 (o := .lst xa) ha1
    refine ⟨_, rfl, _, _, _, _, rfl, by rw [upd_ne nxa]; exact upd_same, T.c_Walker, T.n_Walker_own_actions, by show 8 < 1000; decide, ?_⟩
    have s7 := same_at hx s6 (o := .ins (WC K) dx2 (wFs lim2 ply2 st2 sit a1 e1))
    have nb : ∀ {c dc : Addr} {fs : List (Str × V)}, H2 c = some (.ins (BC K) dc [("low_end", vO W.b.lo), ("high_end", vO W.b.hi)]) → c ≠ x := fun {c dc fs} e z => by
      rw [z, g1] at e
      have e' := Option.some.inj e
      injection e' with _ _ e''
      cases e''
    have sX : SameX x H2 (upd (upd (upd (upd (upd H2 x (.ins (WC K) dx2 (wFs lim2 ply2 st2 sit LA0 LE0))) e1 (.lst xe)) x (.ins (WC K) dx2 (wFs lim2 ply2 st2 sit LA0 e1))) a1 (.lst xa)) x (.ins (WC K) dx2 (wFs lim2 ply2 st2 sit a1 e1))) :=
      (((SameX.upd.trans (SameX.of (same_upd he1))).trans SameX.upd).trans (SameX.of (same_upd ha1))).trans SameX.upd
    obtain ⟨bc, bdc, rfl, hbc⟩ := g2
    obtain ⟨pc, rfl, hpc⟩ := g3
    obtain ⟨sc, rfl, hsc⟩ := g4
    refine ⟨_, rfl, h _ x a1 e1 s7 hx (Same.free s5 ha1) (Same.free s3 he1) ⟨⟨dx2, .ref bc, .ref pc, .ref sc, sit, xa, xe, upd_same, ⟨bc, bdc, rfl, sX _ _ (nb (fs := []) hbc) hbc⟩, ⟨pc, rfl, sX _ _ (ne_ins g1 hpc fun _ _ _ z => nomatch z) hpc⟩,
      ⟨sc, rfl, sX _ _ (ne_ins g1 hsc fun _ _ _ z => nomatch z) hsc⟩, h5.mono s7, ?_, h7.imp fun _ _ q => q.mono s7, ?_, h9.imp fun _ _ q => q.mono s7⟩, nea.symm⟩⟩
    · rw [upd_ne nxa.symm, upd_same]
    · rw [upd_ne nxe.symm, upd_ne nea, upd_ne nxe.symm, upd_same]
end
end Hs
end

/-! HsD14 -/
section
set_option Elab.async false
set_option linter.all false
set_option maxRecDepth 100000
set_option maxHeartbeats 4000000
namespace Hs
open PySem PySem.Spec PyProof.Rows L2
local macro_rules | `(tactic| walk_at "ix") => `(tactic| refine ⟨_, _, _, _, rfl, rfl, SqT.of (by assumption), (by first | exact at0 | exact at1 | exact at2 | exact at3), ?_⟩)
local macro_rules | `(tactic| walk_at "fl") => `(tactic| refine ⟨_, _, _, _, _, rfl, (by assumption), (by first | exact Tx.c_Band (by assumption) | exact Tx.c_Extents (by assumption) | exact Tx.c_Walker (by assumption)), (by first
  | exact Tx.n_Band_low_end (by assumption) | exact Tx.n_Band_high_end (by assumption) | exact Tx.n_Extents_width (by assumption) | exact Tx.n_Extents_climb (by assumption) | exact Tx.n_Extents_depth (by assumption) | exact Tx.n_Extents_base (by assumption) | exact Tx.n_Extents_limit (by assumption)
  | exact Tx.n_Walker_limits (by assumption) | exact Tx.n_Walker_own_players (by assumption) | exact Tx.n_Walker_own_observer (by assumption) | exact Tx.n_Walker_is_observed (by assumption) | exact Tx.n_Walker_first_state (by assumption) | exact Tx.n_Walker_situation (by assumption) | exact Tx.n_Walker_own_actions (by assumption) | exact Tx.n_Walker_earlier (by assumption)), rfl, ?_⟩)
local macro_rules | `(tactic| walk_at "r1") => `(tactic| first | refine ⟨_, rfl, ?_⟩ | refine ⟨_, _, rfl, rfl, ?_⟩ | refine ⟨_, _, rfl, ?_⟩ | walk_at "ix" | walk_at "fl")
local macro_rules | `(tactic| walk_at "rd") => `(tactic| repeat walk_at "r1")
local macro_rules | `(tactic| walk_at "b") => `(tactic| first | (exact fun _ _ _ _ _ _ us hl => match us, hl with | [_], _ => rfl) | (exact fun _ _ _ _ _ _ us hl => match us, hl with | [_, _], _ => rfl) | (exact fun _ _ _ _ _ _ us hl => match us, hl with | [_, _, _], _ => rfl) | (exact fun _ _ _ _ _ _ us hl => match us, hl with | [_, _, _, _], _ => rfl))
section
variable {P : Program} {w : World} {K : PySem.W.Frag} {mg : Str → Option Value} {base : Heap} (T : Tx K mg)
/-! ### walked -/
def runA : Act → Option Run
  | .adv _ d n => some (d, n)
  | _ => none
def advR (xs : List Act) : List Run := xs.filterMap runA
theorem advR_snoc (xs : List Act) (x : Act) : advR (xs ++ [x]) = advR xs ++ (match runA x with | some r => [r] | none => []) := by
  unfold advR
  rw [List.filterMap_append]
  cases e : runA x with
  | none => simp [e]
  | some r => simp [e]
theorem advR_len (xs : List Act) : (advR xs).length ≤ xs.length := List.length_filterMap_le _ _
def spWalked (K : PySem.W.Frag) : Sp := fun vs H Q _ => ∃ (a LA LE : Addr) (W : Wk), vs = [.ref a] ∧ AtW K H a LA LE W ∧ (∀ r ∈ advR (W.hist.map (·.1)), 0 < r.2) ∧ W.hist.length < 1000 ∧
  ∀ (H' : Hp) (l : Addr), Same H H' → H l = none → IsRuns H' l (mergeR [] (advR (W.hist.map (·.1)))) → Q (.ref l) H'
theorem scWalkerWalked : FnScope ["self", "action"] ["self"] (defScope sWalkerWalked) := ⟨rfl, rfl, rfl, by decide +kernel, rfl, by decide +kernel, by decide +kernel⟩
include T in
theorem ok_Walker_walked : Met P w K mg base 6 (WC K) "walked" (spWalked K) [] := by
  obtain ⟨fd, F⟩ := T.d_WalkerWalked
  refine ⟨_, fd, ["self"], [], T.c_Walker, T.m_Walker_walked, F.ok scWalkerWalked (fun vs H Q E h => ?_) (fun cdv A outer s H vs Q E hr h => ⟨_, PSs.nox (pss_one (ps_ret (pe_c (ok_merge_runs T) hr (by decide) (pa_cons (pe_lc (own := [("action", 1)]) (g := gName 1) (tt := _) rfl scWalkerWalked.nd (pi_list (pe_fld (pv 0) rfl)) (blkOk_by (own := [("action", 1)]) (N := ["self", "action"]) (sc := defScope sWalkerWalked) (by decide +kernel)) (fun _ _ _ _ _ => pg_name (i := 1) scWalkerWalked.nd rfl (by first | exact Or.inl rfl | exact Or.inr rfl)) (fun _ _ _ _ _ => pts_one (pt_cmpR op_eq (pe_ix (show IxR _ (rIxT K) from ix_tup) (pv 1) pe_int (fun _ _ => rfl)) pe_str (nomark _))) (fun _ _ _ _ _ => pe_slice (show SlR _ (rSlT K) from sl_tup) (pv 1) (po_some pe_int) po_none)) pa_nil)))), ?_⟩),
    F.bindsN (by walk_at "b"), .nil⟩
  · obtain ⟨a, _, _, _, rfl, _⟩ := h; rfl
  · obtain ⟨a, LA, LE, W, rfl, hW, hp, hz, h⟩ := h
    obtain ⟨⟨dx, lim, ply, st0, sit, xa, xe, h1, h2, h3, h4, h5, h6, h7, h8, h9⟩, ne⟩ := id hW
    unfold wFs at h1
    generalize hacts : W.hist.map (·.1) = acts at *
    have la : acts.length < 1000 := by rw [← hacts, List.length_map]; exact hz
    walk_at "rd"
    refine ⟨⟨_, SqL.of h6⟩, fun D hD => ?_⟩
    refine lc_list (xs := xa) (fun i H' => Same H H' ∧ ∃ ys, H' D = some (.lst ys) ∧ All2 (IsRun H') ys (advR (acts.take i))) ⟨same_upd hD, [], upd_same, .nil⟩ (fun i H' _ q => SqL.of (q.1 _ _ h6)) (fun i x H' hxi q => ?_) fun H' q => ?_
    · obtain ⟨s1, ys, hys, hr2⟩ := q
      obtain ⟨ac, hac, hxr⟩ := h7.at_ hxi
      have e : acts.take (i + 1) = acts.take i ++ [ac] := by rw [List.take_succ, hac]; rfl
      have lz : ys.length < sizeLine := by
        have q1 := hr2.len
        have q2 := advR_len (acts.take i)
        have q3 : (acts.take i).length ≤ acts.length := List.length_take_le' _ _
        rw [sizeLine_eq]; omega
      cases ac with
      | adv nm d n =>
        obtain ⟨t, rfl, ht⟩ := hxr.mono s1
        have e2 : advR (acts.take (i + 1)) = advR (acts.take i) ++ [(d, n)] := by rw [e, advR_snoc] <;> rfl
        refine ⟨rfl, ?_⟩
        walk_at "rd"
        refine ⟨rfl, ?_⟩
        walk_at "rd"
        refine ⟨_, _, rfl, SqT.of ht, fun z => absurd z.1 (by show ¬ HT.sIx 4 0 (some 2) = 0; decide), fun p hp' => ?_⟩
        have npD : D ≠ p := ne_none hys hp'
        refine ⟨ys, by rw [upd_ne npD]; exact hys, lz, same_at hD (same_upd2 s1 hp'), _, upd_same, ?_⟩
        rw [e2]
        refine All2.app (hr2.imp fun _ _ q => (q.mono (same_upd hp')).monoX SameX.upd (by rw [upd_ne npD]; exact hys)) (.one ⟨p, rfl, ?_⟩)
        rw [upd_ne npD.symm, upd_same] <;> rfl
      | goal g =>
        obtain ⟨t, u, rfl, ht, hu⟩ := hxr.mono s1
        have e2 : advR (acts.take (i + 1)) = advR (acts.take i) := by rw [e, advR_snoc]; exact List.append_nil _
        refine ⟨rfl, ?_⟩
        walk_at "rd"
        refine ⟨rfl, ?_⟩
        iterate 1 walk_at "r1"
        exact ⟨s1, ys, hys, by rw [e2]; exact hr2⟩
      | undo n =>
        obtain ⟨t, rfl, ht⟩ := hxr.mono s1
        have e2 : advR (acts.take (i + 1)) = advR (acts.take i) := by rw [e, advR_snoc]; exact List.append_nil _
        refine ⟨rfl, ?_⟩
        walk_at "rd"
        refine ⟨rfl, ?_⟩
        iterate 1 walk_at "r1"
        exact ⟨s1, ys, hys, by rw [e2]; exact hr2⟩
    · obtain ⟨s1, ys, hys, hr2⟩ := q
      rw [h7.len, List.take_length] at hr2
      have lr := advR_len acts
      exact ⟨D, advR acts, rfl, ⟨ys, hys, hr2⟩, hp, by omega, fun H2 l s2 hl hr3 => h H2 l (s1.trans s2) (Same.free s1 hl) hr3⟩
/-! ### is_too_far, status, lost_at -/
def spFar (K : PySem.W.Frag) : Sp := fun vs H Q _ => ∃ (a LA LE : Addr) (W : Wk) (v : V) (p : P3) (k : Int), vs = [.ref a, v, .int k] ∧ AtW K H a LA LE W ∧ IsP H v p ∧ PQ p W.cur.gl W.b ∧ ∀ H', Same H H' → Q (.bl (decide (k < dist p W.cur.gl W.b))) H'
theorem scWalkerIsTooFar : FnScope ["self", "state", "budget", "length"] ["self", "state", "budget"] (defScope sWalkerIsTooFar) := ⟨rfl, rfl, rfl, by decide +kernel, rfl, by decide +kernel, by decide +kernel⟩
include T in
theorem ok_Walker_is_too_far : Met P w K mg base 9 (WC K) "is_too_far" (spFar K) [] := by
  obtain ⟨fd, F⟩ := T.d_WalkerIsTooFar
  refine ⟨_, fd, ["self", "state", "budget"], [], T.c_Walker, T.m_Walker_is_too_far, F.ok scWalkerIsTooFar (fun vs H Q E h => ?_) (fun cdv A outer s H vs Q E hr h => ⟨_, PSs.nox (pss_cons (ps_set (i := 3) scWalkerIsTooFar.nd rfl (by first | exact Or.inl rfl | exact Or.inr rfl) (pe_c (ok_distance_or_none T) hr (by decide) (pa_cons (pv 1) (pa_cons (pe_mt0 (ok_Walker_current_goal T) hr (by decide) (pv 0)) (pa_cons (pe_fld (pv 0) rfl) pa_nil)))))
      (pss_one (ps_ret (pe_or (pe_cmp (pc_isN (pv 3))) (pe_one (pe_cmp (pc_gt (pv 3) (pv 2)))))))), ?_⟩),
    F.bindsN (by walk_at "b"), .nil⟩
  · obtain ⟨a, _, _, _, _, _, _, rfl, _⟩ := h; rfl
  · obtain ⟨a, LA, LE, W, v, p, k, rfl, hW, hp, o, h⟩ := h
    obtain ⟨⟨dx, lim, ply, st0, sit, xa, xe, h1, h2, h3, h4, h5, h6, h7, h8, h9⟩, ne⟩ := id hW
    have h1' := h1
    unfold wFs at h1
    iterate 2 walk_at "r1"
    refine ⟨_, _, _, rfl, h1', rfl, ?_⟩
    refine ⟨a, LA, LE, W, rfl, hW, fun gv hg => ?_⟩
    walk_at "rd"
    refine ⟨_, _, _, p, W.cur.gl, W.b, rfl, hp, hg, h2, o, fun H1 s1 => ?_⟩
    walk_at "rd"
    exact h H1 s1
def dP (p : P3) : PyData := .tuple [.int p.x, .int p.h, .int p.s]
theorem IsP.dp {K : PySem.W.Frag} {H : Hp} {v : V} {p : P3} (h : IsP H v p) : Dp K H v (dP p) := by
  obtain ⟨a, rfl, q⟩ := h
  exact .tup (SqT.of q) (.cons (.int _) (.cons (.int _) (.cons (.int _) .nil)))
theorem dP_shaped (p : P3) : SeqAt.shaped (dP p) = true := by
  unfold SeqAt.shaped dP
  simp [PyData.canLay0, PyData.canLayAll0, PyData.depth, PyData.depthAll]
theorem dP_eqv (p q : P3) : PyData.eqv (dP p) (dP q) = decide (p = q) := by
  have e : PyData.eqv (dP p) (dP q) = ((p.x == q.x) && ((p.h == q.h) && (p.s == q.s))) := by simp [dP, PyData.eqv, PyData.eqvAll]
  rw [e, Bool.eq_iff_iff, Bool.and_eq_true, Bool.and_eq_true, beq_iff_eq, beq_iff_eq, beq_iff_eq, decide_eq_true_eq]
  constructor
  · rintro ⟨h1, h2, h3⟩
    cases p; cases q
    simp only at h1 h2 h3
    rw [h1, h2, h3]
  · intro h
    rw [h]
    exact ⟨rfl, rfl, rfl⟩
noncomputable def statS (W : Wk) : Str := if W.cur.st = W.cur.gl then "arrived" else if W.cur.left < dist W.cur.st W.cur.gl W.b then "lost" else "underway"
def spStat (K : PySem.W.Frag) : Sp := fun vs H Q _ => ∃ (a LA LE : Addr) (W : Wk), vs = [.ref a] ∧ AtW K H a LA LE W ∧ PQ W.cur.st W.cur.gl W.b ∧ ∀ H', Same H H' → Q (.str (statS W)) H'
theorem scWalkerStatus : FnScope ["self"] ["self"] (defScope sWalkerStatus) := ⟨rfl, rfl, rfl, by decide +kernel, rfl, by decide +kernel, by decide +kernel⟩
include T in
theorem ok_Walker_status : Met P w K mg base 10 (WC K) "status" (spStat K) [] := by
  obtain ⟨fd, F⟩ := T.d_WalkerStatus
  refine ⟨_, fd, ["self"], [], T.c_Walker, T.m_Walker_status, F.ok scWalkerStatus (fun vs H Q E h => ?_) (fun cdv A outer s H vs Q E hr h => ⟨_, PSs.nox (pss_cons (ps_if (pt_cmpR (op_eqD hr.units) (pe_mt0 (ok_Walker_current_state T) hr (by decide) (pv 0)) (pe_mt0 (ok_Walker_current_goal T) hr (by decide) (pv 0)) (nomark _)) (pss_one (ps_ret pe_str)) pss_nil)
      (pss_one (ps_ret (pe_ifExp (pt_val (pe_mt (ok_Walker_is_too_far T) hr (by decide) (pv 0) (pa_cons (pe_mt0 (ok_Walker_current_state T) hr (by decide) (pv 0)) (pa_cons (pe_mt0 (ok_Walker_budget T) hr (by decide) (pv 0)) pa_nil)))) pe_str pe_str)))), ?_⟩),
    F.bindsN (by walk_at "b"), .nil⟩
  · obtain ⟨a, _, _, _, rfl, _⟩ := h; rfl
  · obtain ⟨a, LA, LE, W, rfl, hW, o, h⟩ := h
    obtain ⟨⟨dx, lim, ply, st0, sit, xa, xe, h1, h2, h3, h4, h5, h6, h7, h8, h9⟩, ne⟩ := id hW
    refine ⟨_, rfl, _, _, _, rfl, h1, rfl, ?_⟩
    refine ⟨a, LA, LE, W, rfl, hW, fun sv hs => ?_⟩
    refine ⟨_, rfl, _, _, _, rfl, h1, rfl, ?_⟩
    refine ⟨a, LA, LE, W, rfl, hW, fun gv hg => ?_⟩
    refine ⟨_, _, hs.dp, hg.dp, dP_shaped _, dP_shaped _, _, rfl, ?_⟩
    rw [dP_eqv]
    have hst : statS W = if W.cur.st = W.cur.gl then ("arrived" : Str) else if W.cur.left < dist W.cur.st W.cur.gl W.b then ("lost" : Str) else ("underway" : Str) := rfl
    refine ite2 (fun z => ?_) fun z => ?_
    · have z' := of_decide_eq_true z
      rw [hst, if_pos z'] at h
      exact h H (Same.refl H)
    · have z' : ¬ W.cur.st = W.cur.gl := fun q => z (decide_eq_true q)
      rw [hst, if_neg z'] at h
      refine ⟨_, rfl, _, _, _, rfl, h1, rfl, ?_⟩
      refine ⟨_, rfl, _, _, _, rfl, h1, rfl, ?_⟩
      refine ⟨a, LA, LE, W, rfl, hW, fun sv hs => ?_⟩
      refine ⟨_, rfl, _, _, _, rfl, h1, rfl, ?_⟩
      refine ⟨a, LA, LE, W, rfl, hW, ?_⟩
      refine ⟨a, LA, LE, W, sv, W.cur.st, W.cur.left, rfl, hW, hs, o, fun H1 s1 => ?_⟩
      have h' := h H1 s1
      refine ⟨_, rfl, ?_⟩
      refine ite2 (fun y => ?_) fun y => ?_
      · rw [if_pos (of_decide_eq_true y)] at h'
        exact h'
      · rw [if_neg (fun q => y (decide_eq_true q))] at h'
        exact h'
end
end Hs
end

/-! HsD15 -/
section
set_option Elab.async false
set_option linter.all false
set_option maxRecDepth 100000
set_option maxHeartbeats 4000000
namespace Hs
open PySem PySem.Spec PyProof.Rows L2
local macro_rules | `(tactic| walk_at "ix") => `(tactic| refine ⟨_, _, _, _, rfl, rfl, SqT.of (by assumption), (by first | exact at0 | exact at1 | exact at2 | exact at3), ?_⟩)
local macro_rules | `(tactic| walk_at "fl") => `(tactic| refine ⟨_, _, _, _, _, rfl, (by assumption), (by first | exact Tx.c_Band (by assumption) | exact Tx.c_Extents (by assumption) | exact Tx.c_Walker (by assumption)), (by first
  | exact Tx.n_Band_low_end (by assumption) | exact Tx.n_Band_high_end (by assumption) | exact Tx.n_Extents_width (by assumption) | exact Tx.n_Extents_climb (by assumption) | exact Tx.n_Extents_depth (by assumption) | exact Tx.n_Extents_base (by assumption) | exact Tx.n_Extents_limit (by assumption)
  | exact Tx.n_Walker_limits (by assumption) | exact Tx.n_Walker_own_players (by assumption) | exact Tx.n_Walker_own_observer (by assumption) | exact Tx.n_Walker_is_observed (by assumption) | exact Tx.n_Walker_first_state (by assumption) | exact Tx.n_Walker_situation (by assumption) | exact Tx.n_Walker_own_actions (by assumption) | exact Tx.n_Walker_earlier (by assumption)), rfl, ?_⟩)
local macro_rules | `(tactic| walk_at "r1") => `(tactic| first | refine ⟨_, rfl, ?_⟩ | refine ⟨_, _, rfl, rfl, ?_⟩ | refine ⟨_, _, rfl, ?_⟩ | walk_at "ix" | walk_at "fl")
local macro_rules | `(tactic| walk_at "rd") => `(tactic| repeat walk_at "r1")
local macro_rules | `(tactic| walk_at "b") => `(tactic| first | (exact fun _ _ _ _ _ _ us hl => match us, hl with | [_], _ => rfl) | (exact fun _ _ _ _ _ _ us hl => match us, hl with | [_, _], _ => rfl) | (exact fun _ _ _ _ _ _ us hl => match us, hl with | [_, _, _], _ => rfl) | (exact fun _ _ _ _ _ _ us hl => match us, hl with | [_, _, _, _], _ => rfl))
section
variable {P : Program} {w : World} {K : PySem.W.Frag} {mg : Str → Option Value} {base : Heap} (T : Tx K mg)
/-! ### lost_at -/
def Wk.runs (W : Wk) : List Run := mergeR [] (advR (W.hist.map (·.1)))
def Wk.at_ (W : Wk) (m : Int) : P3 := afterR W.s0.st (firstR [] W.runs m)
/-- too far behind m steps -/
def Wk.far (W : Wk) (m : Int) : Prop := W.cur.left + totR W.runs - m < dist (W.at_ m) W.cur.gl W.b
structure Wk.Way (W : Wk) : Prop where
  rp : ∀ r ∈ advR (W.hist.map (·.1)), 0 < r.2
  len : W.hist.length < 1000
  t0 : 0 ≤ totR W.runs
  ok : ∀ m, 0 ≤ m → m ≤ totR W.runs → PQ (W.at_ m) W.cur.gl W.b ∧ okA W.s0.st (firstR [] W.runs m)
  cur : W.at_ (totR W.runs) = W.cur.st
theorem mergeR_pos : ∀ (rs acc : List Run), (∀ r ∈ acc, 0 < r.2) → ∀ r ∈ mergeR acc rs, 0 < r.2
  | [], acc, h => h
  | (d, n) :: rs, acc, h => mergeR_pos rs (appRun acc d n) (appRun_pos h)
theorem Wk.runs_pos (W : Wk) : ∀ r ∈ W.runs, 0 < r.2 := mergeR_pos _ _ fun r h => by cases h
theorem Wk.runs_len (W : Wk) (h : W.hist.length < 1000) : W.runs.length < 5000 := by
  have a := mergeR_len (advR (W.hist.map (·.1))) []
  have b := advR_len (W.hist.map (·.1))
  rw [List.length_map] at b
  rw [List.length_nil] at a
  show (mergeR [] _).length < _
  omega
def spLostAt (K : PySem.W.Frag) : Sp := fun vs H Q _ => ∃ (a LA LE : Addr) (W : Wk), vs = [.ref a] ∧ AtW K H a LA LE W ∧ W.Way ∧ (statS W ≠ ("lost" : Str) → ∀ H', Same H H' → Q .non H') ∧
  (statS W = ("lost" : Str) → ∀ (H' : Hp) (m : Int), Same H H' → 0 ≤ m → m ≤ totR W.runs → W.far m → (m = 0 ∨ ¬ W.far (m - 1)) → Q (.int (m - 1)) H')
theorem stat_lost {W : Wk} (h : statS W = ("lost" : Str)) : W.cur.left < dist W.cur.st W.cur.gl W.b := by
  unfold statS at h
  split at h
  · exact absurd h (by decide +kernel)
  · split at h
    · assumption
    · exact absurd h (by decide +kernel)
theorem Wk.Way.pq {W : Wk} (y : W.Way) : PQ W.cur.st W.cur.gl W.b := by
  have h := (y.ok _ y.t0 (Int.le_refl _)).1
  rw [y.cur] at h
  exact h
theorem scWalkerLostAt : FnScope ["self", "runs", "good", "lost", "middle", "state"] ["self"] (defScope sWalkerLostAt) := ⟨rfl, rfl, rfl, by decide +kernel, rfl, by decide +kernel, by decide +kernel⟩
include T in
theorem ok_Walker_lost_at : Met P w K mg base 11 (WC K) "lost_at" (spLostAt K) [] := by
  obtain ⟨fd, F⟩ := T.d_WalkerLostAt
  refine ⟨_, fd, ["self"], [], T.c_Walker, T.m_Walker_lost_at, F.ok scWalkerLostAt (fun vs H Q E h => ?_) (fun cdv A outer s H vs Q E hr h => ⟨_, PSs.nox (pss_cons (ps_if (pt_cmpR op_ne (pe_mt0 (ok_Walker_status T) hr (by decide) (pv 0)) pe_str (nomark _)) (pss_one (ps_ret pe_non)) pss_nil)
      (pss_cons (ps_set (i := 1) scWalkerLostAt.nd rfl (by first | exact Or.inl rfl | exact Or.inr rfl) (pe_mt0 (ok_Walker_walked T) hr (by decide) (pv 0)))
      (pss_cons (ps_par (i := 2) (j := 3) rfl scWalkerLostAt.nd rfl rfl (by decide) rfl rfl (pa_cons (pe_un un_neg pe_int) (pa_cons (pe_c (ok_total_steps T) hr (by decide) (pa_cons (pv 1) pa_nil)) pa_nil)) rfl)
      (pss_cons (ps_while PassesOwn.never (pt_cmp (pc_gt (pe_op op_sub (pv 3) (pv 2)) pe_int)) (pss_cons (ps_set (i := 4) scWalkerLostAt.nd rfl (by first | exact Or.inl rfl | exact Or.inr rfl) (pe_op op_fdiv (pe_op op_add (pv 2) (pv 3)) pe_int))
      (pss_cons (ps_set (i := 5) scWalkerLostAt.nd rfl (by first | exact Or.inl rfl | exact Or.inr rfl) (pe_c (ok_after_runs T) hr (by decide) (pa_cons (pe_fld (pv 0) rfl) (pa_cons (pe_c (ok_first_steps T) hr (by decide) (pa_cons (pv 1) (pa_cons (pv 4) pa_nil))) pa_nil))))
      (pss_one (ps_if (pt_val (pe_mt (ok_Walker_is_too_far T) hr (by decide) (pv 0) (pa_cons (pv 5) (pa_cons (pe_op op_sub (pe_op op_add (pe_mt0 (ok_Walker_budget T) hr (by decide) (pv 0)) (pe_c (ok_total_steps T) hr (by decide) (pa_cons (pv 1) pa_nil))) (pv 4)) pa_nil)))) (pss_one (ps_set (i := 3) scWalkerLostAt.nd rfl (by first | exact Or.inl rfl | exact Or.inr rfl) (pv 4))) (pss_one (ps_set (i := 2) scWalkerLostAt.nd rfl (by first | exact Or.inl rfl | exact Or.inr rfl) (pv 4))))))))
      (pss_one (ps_ret (pe_op op_sub (pv 3) pe_int))))))), ?_⟩),
    F.bindsN (by walk_at "b"), .nil⟩
  · obtain ⟨a, _, _, _, rfl, _⟩ := h; rfl
  · obtain ⟨a, LA, LE, W, rfl, hW, y, hno, hyes⟩ := h
    obtain ⟨⟨dx, lim, ply, st0, sit, xa, xe, h1, h2, h3, h4, h5, h6, h7, h8, h9⟩, ne⟩ := id hW
    have h1' := h1
    unfold wFs at h1
    refine ⟨_, rfl, _, _, _, rfl, h1', rfl, ?_⟩
    refine ⟨a, LA, LE, W, rfl, hW, y.pq, fun H1 s1 => ?_⟩
    refine ⟨rfl, _, rfl, ?_⟩
    refine ite2 (fun z => ?_) fun z => ?_
    · have z' : statS W ≠ ("lost" : Str) := fun q => by rw [q, decide_eq_true rfl] at z; cases z
      exact hno z' H1 s1
    · have z' : statS W = ("lost" : Str) := Classical.byContradiction fun q => z (by rw [decide_eq_false fun t => q (V.str.inj t)]; rfl)
      have farT : W.far (totR W.runs) := by
        unfold Wk.far
        rw [y.cur]
        have := stat_lost z'
        omega
      have h1b := s1 _ _ h1'
      refine ⟨_, rfl, _, _, _, rfl, h1b, rfl, ?_⟩
      refine ⟨a, LA, LE, W, rfl, hW.mono s1, y.rp, y.len, fun H2 l s2 hl0 hR => ?_⟩
      have s12 := s1.trans s2
      walk_at "rd"
      refine ⟨l, W.runs, rfl, hR, W.runs_pos, W.runs_len y.len, fun H3 s3 => ?_⟩
      have s13 := s12.trans s3
      refine ⟨_, _, rfl, ?_⟩
      have hR3 : IsRuns H3 l W.runs := hR.mono s3
      refine while_by (fun σ H' => Same H H' ∧ IsRuns H' l W.runs ∧ ∃ g t u v, σ = [some (.ref a), some (.ref l), some (.int g), some (.int t), u, v] ∧ -1 ≤ g ∧ g < t ∧ t ≤ totR W.runs ∧ W.far t ∧ (g = -1 ∨ ¬ W.far g)) (fun σ _ => match σ with | [_, _, some (.int g), some (.int t), _, _] => (t - g).toNat | _ => 0)
        ⟨s13, hR3, -1, totR W.runs, _, _, rfl, Int.le_refl _, by have := y.t0; omega, Int.le_refl _, farT, .inl rfl⟩ (fun σ H5 q => ?_) (fun σ H2 R R' hq hm => by
            obtain ⟨x, e1, y, e2, i, j, e3, e4, i2, j2, e5, e6, c, e7, hm⟩ := hm
            exact ⟨x, e1, y, e2, i, j, e3, e4, i2, j2, e5, e6, c, e7, hq _ _ hm⟩)
      obtain ⟨s5, hR5, g, t, u, v, rfl, q0, q1, q2, q3, q4⟩ := q
      walk_at "rd"
      refine ite2 (fun z => ?_) fun z => ?_
      · have gt : 1 < t - g := of_decide_eq_true z
        refine ⟨_, rfl, _, rfl, _, _, rfl, rfl, _, _, rfl, rfl, ⟨by decide, by decide⟩, ?_⟩
        have m1 : g < (g + t) / 2 := by omega
        have m2 : (g + t) / 2 < t := by omega
        have m0 : 0 ≤ (g + t) / 2 := by omega
        have mT : (g + t) / 2 ≤ totR W.runs := by omega
        obtain ⟨oPQ, oA⟩ := y.ok _ m0 mT
        have h1d := s5 _ _ h1
        walk_at "rd"
        refine ⟨l, W.runs, _, rfl, hR5, W.runs_len y.len, fun H6 l6 s6 _ hr6 => ?_⟩
        refine ⟨_, W.s0.st, l6, _, rfl, h4.mono (s5.trans s6), hr6, oA, fun H7 w7 s7 hw7 => ?_⟩
        have s57 := s6.trans s7
        have s7' := s5.trans s57
        have h1e := s7' _ _ h1'
        refine ⟨_, rfl, _, _, _, rfl, h1e, rfl, ?_⟩
        iterate 2 walk_at "r1"
        refine ⟨_, _, _, rfl, h1e, rfl, ?_⟩
        refine ⟨a, LA, LE, W, rfl, hW.mono s7', ?_⟩
        refine ⟨_, rfl, l, W.runs, rfl, hR5.mono s57, W.runs_pos, W.runs_len y.len, fun H8 s8 => ?_⟩
        have s8' := s7'.trans s8
        walk_at "rd"
        refine ⟨a, LA, LE, W, _, W.at_ ((g + t) / 2), _, rfl, hW.mono s8', hw7.mono s8, oPQ, fun H9 s9 => ?_⟩
        have s9' := s8'.trans s9
        refine ⟨_, rfl, ?_⟩
        refine ite2 (fun z => ?_) fun z => ?_
        · have fz : W.far ((g + t) / 2) := by
            have q' : W.cur.left + totR W.runs - (g + t) / 2 < dist (W.at_ ((g + t) / 2)) W.cur.gl W.b := of_decide_eq_true z
            exact q'
          refine ⟨_, rfl, ⟨s9', hR5.mono ((s57.trans s8).trans s9), _, _, _, _, rfl, q0, m1, mT, fz, q4⟩, ?_⟩
          show ((g + t) / 2 - g).toNat < (t - g).toNat
          omega
        · have fz : ¬ W.far ((g + t) / 2) := fun q => by
            have q' : W.cur.left + totR W.runs - (g + t) / 2 < dist (W.at_ ((g + t) / 2)) W.cur.gl W.b := q
            exact z (decide_eq_true q')
          refine ⟨_, rfl, ⟨s9', hR5.mono ((s57.trans s8).trans s9), _, _, _, _, rfl, by omega, m2, q2, q3, .inr fz⟩, ?_⟩
          show (t - (g + t) / 2).toNat < (t - g).toNat
          omega
      · have gt : ¬ 1 < t - g := fun q => z (decide_eq_true q)
        have eg : t - 1 = g := by omega
        walk_at "rd"
        refine hyes z' H5 t s5 (by omega) q2 q3 ?_
        rcases q4 with q4 | q4
        · exact .inl (by omega)
        · exact .inr (by rw [eg]; exact q4)
end
end Hs
end

/-! HsGd -/
section
set_option Elab.async false
set_option linter.all false
set_option maxRecDepth 100000
set_option maxHeartbeats 4000000
set_option exponentiation.threshold 2000
/-! data whose repr is told -/
namespace Hs
open PySem PySem.Spec PyProof.Rows L2
structure Gd (k N : Nat) (d : PyData) : Prop where
  sh : d.showable = true
  hd : d.hasDict = false
  dp : d.depth ≤ k
  ls : d.leavesShort 1921 = true
  bk : d.bulk ≤ N
structure GdAll (k N : Nat) (ds : List PyData) : Prop where
  sh : PyData.showableAll ds = true
  hd : PyData.hasDictAll ds = false
  dp : PyData.depthAll ds ≤ k
  ls : PyData.leavesShortAll 1921 ds = true
  bk : PyData.bulkAll ds ≤ N
theorem Gd.int {i : Int} (h : i.natAbs < 2 ^ 1900) : Gd 0 0 (.int i) := by
  have hl : i.natAbs.log2 < 1920 := Nat.lt_of_lt_of_le (PySem.Flt.log2_lt_of (by decide) h) (by decide)
  refine ⟨by simp only [PyData.showable]; exact decide_eq_true hl, rfl, Nat.le_refl _, ?_, Nat.le_refl _⟩
  simp only [PyData.leavesShort]
  exact decide_eq_true (int_text_len_1921 hl)
theorem Gd.non : Gd 0 0 .none := ⟨rfl, rfl, Nat.le_refl _, rfl, Nat.le_refl _⟩
theorem Gd.str {x : Str} {n : Nat} (h : ∀ c ∈ x.cps.toList, c < 16 ^ 8) (hn : x.length ≤ n) : Gd 0 n (.str x) :=
  ⟨rfl, rfl, Nat.le_refl _, by simp only [PyData.leavesShort]; exact List.all_eq_true.mpr fun c hc => decide_eq_true (h c hc), hn⟩
theorem Gd.mono {k N k' N' : Nat} {d : PyData} (h : Gd k N d) (a : k ≤ k') (b : N ≤ N') : Gd k' N' d := ⟨h.sh, h.hd, Nat.le_trans h.dp a, h.ls, Nat.le_trans h.bk b⟩
theorem GdAll.nil {k N : Nat} : GdAll k N [] := ⟨rfl, rfl, Nat.zero_le _, rfl, Nat.zero_le _⟩
theorem GdAll.cons {k N M : Nat} {d : PyData} {ds : List PyData} (h : Gd k N d) (t : GdAll k M ds) : GdAll k (N + 1 + M) (d :: ds) := by
  refine ⟨?_, ?_, ?_, ?_, ?_⟩
  · simp only [PyData.showableAll, h.sh, t.sh, Bool.and_true]
  · simp only [PyData.hasDictAll, h.hd, t.hd, Bool.or_false]
  · simp only [PyData.depthAll]; exact Nat.max_le.mpr ⟨h.dp, t.dp⟩
  · simp only [PyData.leavesShortAll, h.ls, t.ls, Bool.and_true]
  · simp only [PyData.bulkAll]; have := h.bk; have := t.bk; omega
theorem GdAll.mono {k N k' N' : Nat} {d : List PyData} (h : GdAll k N d) (a : k ≤ k') (b : N ≤ N') : GdAll k' N' d := ⟨h.sh, h.hd, Nat.le_trans h.dp a, h.ls, Nat.le_trans h.bk b⟩
theorem Gd.tup {k N : Nat} {ds : List PyData} (h : GdAll k N ds) : Gd (k + 1) N (.tuple ds) :=
  ⟨by simp only [PyData.showable]; exact h.sh, by simp only [PyData.hasDict]; exact h.hd, by simp only [PyData.depth]; have := h.dp; omega, by simp only [PyData.leavesShort]; exact h.ls, by simp only [PyData.bulk]; exact h.bk⟩
theorem Gd.lst {k N : Nat} {ds : List PyData} (h : GdAll k N ds) : Gd (k + 1) N (.list ds) :=
  ⟨by simp only [PyData.showable]; exact h.sh, by simp only [PyData.hasDict]; exact h.hd, by simp only [PyData.depth]; have := h.dp; omega, by simp only [PyData.leavesShort]; exact h.ls, by simp only [PyData.bulk]; exact h.bk⟩
theorem GdAll.map {α : Type} {f : α → PyData} {k N : Nat} : ∀ {xs : List α}, (∀ x ∈ xs, Gd k N (f x)) → GdAll k ((N + 1) * xs.length) (xs.map f)
  | [], _ => .nil
  | x :: xs, h => (GdAll.cons (h x (List.mem_cons_self ..)) (GdAll.map fun y hy => h y (List.mem_cons_of_mem _ hy))).mono (Nat.le_refl _) (by rw [List.length_cons, Nat.mul_add]; omega)
theorem Gd.len {k N : Nat} {d : PyData} (h : Gd k N d) (hN : N ≤ 8000) : d.shown.length ≤ sizeLine := by
  have a := PyData.shown_le_bulk 1921 (by decide) d h.ls
  have b := h.bk
  have c : (1921 + 2) * d.bulk ≤ 1923 * 8000 := Nat.mul_le_mul (Nat.le_refl _) (Nat.le_trans b hN)
  rw [sizeLine_eq]
  omega
/-! ### the walker's data -/
def dAct : Act → PyData
  | .adv nm d n => .tuple [.str "advance", .str nm, .str d.t, .int n]
  | .goal g => .tuple [.str "goal", dP g]
  | .undo n => .tuple [.str "undo", .int n]
theorem gdP {p : P3} (h : p.Sm) : Gd 1 3 (dP p) := by
  have key : ∀ {x : Int} {n : Nat}, n ≤ 1900 → x.natAbs < 2 ^ n → x.natAbs < 2 ^ 1900 := fun {x n} hn hx => Nat.lt_of_lt_of_le hx (Nat.pow_le_pow_right (by decide) hn)
  exact .tup ((GdAll.cons (.int (key (by decide) h.x)) (GdAll.cons (.int (key (by decide) h.h)) (GdAll.cons (.int (key (by decide) h.s)) (GdAll.nil (N := 0))))).mono (Nat.le_refl _) (by decide))
theorem abc_small : ∀ c ∈ abc.cps.toList, c < 16 ^ 8 := by
  have h : abc.cps.toList.all (fun c => decide (c < 16 ^ 8)) = true := by decide +kernel
  intro c hc
  exact of_decide_eq_true (List.all_eq_true.mp h c hc)
theorem gdName {z : Str} (h : NameOk z) : Gd 0 8 (.str z) := .str (fun c hc => abc_small c (h.2.2 c hc)) h.2.1
theorem gdLit {x : Str} {n : Nat} (h : x.cps.toList.all (fun c => decide (c < 16 ^ 8)) = true) (hn : x.length ≤ n) : Gd 0 n (.str x) := .str (fun c hc => of_decide_eq_true (List.all_eq_true.mp h c hc)) hn
theorem gdDir (d : Dir) : Gd 0 1 (.str d.t) := by cases d <;> exact gdLit (by decide +kernel) (by decide +kernel)
theorem small_int {i : Int} (h : i.natAbs < 2 ^ 100) : i.natAbs < 2 ^ 1900 := Nat.lt_of_lt_of_le h (Nat.pow_le_pow_right (by decide) (by decide))
def actSm : Act → Prop
  | .adv nm _ n => NameOk nm ∧ 1 ≤ n ∧ n ≤ 4
  | .goal g => g.Sm
  | .undo _ => False
theorem gdAct {x : Act} (h : actSm x) : Gd 2 40 (dAct x) := by
  cases x with
  | adv nm d n =>
    have h5 : n.natAbs < 5 := by have := h.2; omega
    have hn : n.natAbs < 2 ^ 1900 := small_int (Nat.lt_trans h5 (by decide))
    exact (Gd.tup ((GdAll.cons (gdLit (n := 7) (by decide +kernel) (by decide +kernel)) (GdAll.cons ((gdName h.1)) (GdAll.cons ((gdDir d)) (GdAll.cons (.int hn) (GdAll.nil (N := 0))))))) ).mono (by decide) (by decide)
  | goal g =>
    exact (Gd.tup (GdAll.cons ((gdLit (n := 4) (by decide +kernel) (by decide +kernel) : Gd 0 4 (.str "goal")).mono (Nat.zero_le 1) (Nat.le_refl _)) (GdAll.cons (gdP h) (GdAll.nil (N := 0))))).mono (by decide) (by decide)
  | undo n => exact h.elim
end Hs
end

/-! HsD16 -/
section
set_option Elab.async false
set_option linter.all false
set_option maxRecDepth 100000
set_option maxHeartbeats 4000000
namespace Hs
open PySem PySem.Spec PyProof.Rows L2
local macro_rules | `(tactic| walk_at "ix") => `(tactic| refine ⟨_, _, _, _, rfl, rfl, SqT.of (by assumption), (by first | exact at0 | exact at1 | exact at2 | exact at3), ?_⟩)
local macro_rules | `(tactic| walk_at "fl") => `(tactic| refine ⟨_, _, _, _, _, rfl, (by assumption), (by first | exact Tx.c_Band (by assumption) | exact Tx.c_Extents (by assumption) | exact Tx.c_Walker (by assumption)), (by first
  | exact Tx.n_Band_low_end (by assumption) | exact Tx.n_Band_high_end (by assumption) | exact Tx.n_Extents_width (by assumption) | exact Tx.n_Extents_climb (by assumption) | exact Tx.n_Extents_depth (by assumption) | exact Tx.n_Extents_base (by assumption) | exact Tx.n_Extents_limit (by assumption)
  | exact Tx.n_Walker_limits (by assumption) | exact Tx.n_Walker_own_players (by assumption) | exact Tx.n_Walker_own_observer (by assumption) | exact Tx.n_Walker_is_observed (by assumption) | exact Tx.n_Walker_first_state (by assumption) | exact Tx.n_Walker_situation (by assumption) | exact Tx.n_Walker_own_actions (by assumption) | exact Tx.n_Walker_earlier (by assumption)), rfl, ?_⟩)
local macro_rules | `(tactic| walk_at "r1") => `(tactic| first | refine ⟨_, rfl, ?_⟩ | refine ⟨_, _, rfl, rfl, ?_⟩ | refine ⟨_, _, rfl, ?_⟩ | walk_at "ix" | walk_at "fl")
local macro_rules | `(tactic| walk_at "rd") => `(tactic| repeat walk_at "r1")
local macro_rules | `(tactic| walk_at "b") => `(tactic| first | (exact fun _ _ _ _ _ _ us hl => match us, hl with | [_], _ => rfl) | (exact fun _ _ _ _ _ _ us hl => match us, hl with | [_, _], _ => rfl) | (exact fun _ _ _ _ _ _ us hl => match us, hl with | [_, _, _], _ => rfl) | (exact fun _ _ _ _ _ _ us hl => match us, hl with | [_, _, _, _], _ => rfl))
section
variable {P : Program} {w : World} {K : PySem.W.Frag} {mg : Str → Option Value} {base : Heap} (T : Tx K mg)
set_option exponentiation.threshold 2000
/-! ### the law's draws -/
def Pool (H : Hp) (l : Addr) : Prop := ∃ c s : Int, H l = some (.lst [.int c, .int s]) ∧ 0 ≤ s ∧ s < 2147483648
theorem SameX.tup {l a : Addr} {H H' : Hp} {xs : List V} (s : SameX l H H') (hl : Pool H l) (h : H a = some (.tup xs)) : H' a = some (.tup xs) := s _ _ (fun z => by obtain ⟨_, _, e, _⟩ := hl; rw [z, e] at h; cases h) h
theorem Pool.mono {H H' : Hp} {l : Addr} (h : Pool H l) (s : Same H H') : Pool H' l := let ⟨c, x, e, q⟩ := h; ⟨c, x, s _ _ e, q⟩
theorem ints_dpAll {K : PySem.W.Frag} {H : Hp} : ∀ (ns : List Int), DpAll K H (ns.map V.int) (ns.map PyData.int)
  | [] => .nil
  | n :: ns => .cons (.int n) (ints_dpAll ns)
theorem ints_can : ∀ (ns : List Int), PyData.canLayAll0 (ns.map PyData.int) = true
  | [] => by simp [PyData.canLayAll0]
  | r :: rs => by
    have := ints_can rs
    simp only [List.map_cons, PyData.canLayAll0, this, PyData.canLay0, Bool.and_true, Bool.true_and]
theorem ints_depth : ∀ (ns : List Int), PyData.depthAll (ns.map PyData.int) = 0
  | [] => by simp [PyData.depthAll]
  | r :: rs => by
    have := ints_depth rs
    simp only [List.map_cons, PyData.depthAll, PyData.depth, this, Nat.max_self]
theorem ints_shaped (ns : List Int) : SeqAt.shaped (.list (ns.map PyData.int)) = true := by
  unfold SeqAt.shaped
  rw [Bool.and_eq_true]
  refine ⟨?_, decide_eq_true ?_⟩
  · simp only [PyData.canLay0]; exact ints_can ns
  · have := ints_depth ns
    simp only [PyData.depth]; omega
theorem ints_eqv (ns : List Int) : PyData.eqv (.list (ns.map PyData.int)) (.list []) = decide (ns = []) := by
  cases ns with
  | nil => simp [PyData.eqv, PyData.eqvAll]
  | cons r rs => simp [PyData.eqv, PyData.eqvAll]
def spPool (K : PySem.W.Frag) : Sp := fun vs H Q _ => ∃ (a : Addr) (ns : List Int) (k : Nat), vs = [.ref a, .int (k : Int)] ∧ SqL K H a (ns.map V.int) ∧ k ≤ 1 ∧ ∀ (H' : Hp) (l : Addr), Same H H' → H l = none → Pool H' l → Q (.ref l) H'
theorem scLawPool : FnScope ["_law_script", "_law_k", "_law_cell", "_law_seed"] ["_law_script", "_law_k"] (defScope sLawPool) := ⟨rfl, rfl, rfl, by decide +kernel, rfl, by decide +kernel, by decide +kernel⟩
include T in
theorem ok_law_pool : Cal P w K mg base 1 "_law_pool" (spPool K) [] := by
  obtain ⟨fd, F⟩ := T.d_LawPool
  refine ⟨_, fd, ["_law_script", "_law_k"], [], F.ok scLawPool (fun vs H Q E h => ?_) (fun cdv A outer s H vs Q E hr h => ⟨_, PSs.nox (pss_cons (ps_set (i := 2) scLawPool.nd rfl (by first | exact Or.inl rfl | exact Or.inr rfl) pe_int)
      (pss_cons (ps_if (pt_cmpR (op_neD hr.units) (pv 0) (pe_lst pa_nil) (nomark _)) (pss_one (ps_set (i := 2) scLawPool.nd rfl (by first | exact Or.inl rfl | exact Or.inr rfl) (pe_ix ix_list (pv 0) (pe_op op_mod (pv 1) (pe_callB call_len_seq rfl T.f_len boot_len (pa_cons (pv 0) pa_nil))) (fun _ _ => rfl)))) pss_nil)
      (pss_cons (ps_if (pt_cmp (pc_ge (pv 1) (pe_callB call_len_seq rfl T.f_len boot_len (pa_cons (pv 0) pa_nil)))) (pss_one (ps_set (i := 2) scLawPool.nd rfl (by first | exact Or.inl rfl | exact Or.inr rfl) (pe_op op_mod (pv 2) pe_int))) pss_nil)
      (pss_cons (ps_set (i := 3) scLawPool.nd rfl (by first | exact Or.inl rfl | exact Or.inr rfl) (pe_op op_mod (pe_op op_mul (pe_op op_add (pe_op op_add (pe_op op_mod (pv 2) pe_int) (pe_op op_mul pe_int (pv 1))) pe_int) pe_int) pe_int))
      (pss_one (ps_ret (pe_lst (pa_cons (pe_op op_mul (pv 2) (pe_callTy call_int1 rfl T.f_int boot_int (pa_cons (pe_cmp (pc_ge (pv 2) (pe_op op_pow pe_int pe_int))) pa_nil))) (pa_cons (pv 3) pa_nil))))))))), ?_⟩),
    T.g_law_pool, F.kp, F.bindsN (by walk_at "b"), .nil⟩
  · obtain ⟨a, ns, k, rfl, _⟩ := h; rfl
  · obtain ⟨a, ns, k, rfl, ha, hk, h⟩ := h
    walk_at "rd"
    refine ⟨l0, fun p hp => ?_⟩
    have s1 : Same H (upd H p (.lst [])) := same_upd hp
    have ha1 : SqL K (upd H p (.lst [])) a (ns.map V.int) := s1.seq ha
    refine ⟨_, _, .lst ha1 (ints_dpAll ns), nil_dp upd_same, ints_shaped ns, nil_shaped, ?_⟩
    rw [ints_eqv]
    -- behind the first if: any cell
    have fin : ∀ (cell : Int), tSeq (tIfS (tB (tGe (tVar 1) (tCB (fun xs H Q => ∃ p ys, xs = [V.ref p] ∧ (SqL K H p ys ∨ SqT K H p ys) ∧ Q (.int ys.length) H) (tCons (tVar 0) tNil)))) (tAsg (tOp (rI (fun _ j => 0 < j) fun i j => .int (i % j)) (tVar 2) (tC (.int 1000003))) (gName 2)) tNext)
        (tSeq (tAsg (tOp (rI (fun _ j => 0 < j) fun i j => .int (i % j)) (tOp (rI CMul fun i j => .int (i * j)) (tOp (rI0 fun i j => .int (i + j)) (tOp (rI0 fun i j => .int (i + j)) (tOp (rI (fun _ j => 0 < j) fun i j => .int (i % j)) (tVar 2) (tC (.int 2147483629))) (tOp (rI CMul fun i j => .int (i * j)) (tC (.int 104729)) (tVar 1))) (tC (.int 11))) (tC (.int 48271))) (tC (.int 2147483647))) (gName 3))
          (tRet (tLst (tCons (tOp (rI CMul fun i j => .int (i * j)) (tVar 2) (tCB (fun xs H Q => (∃ i, xs = [.int i] ∧ Q (.int i) H) ∨ ∃ k, xs = [.bl k] ∧ Q (.int (if k then 1 else 0)) H) (tCons (tGe (tVar 2) (tOp (rI CPow fun i j => .int (i ^ j.toNat)) (tC (.int 10)) (tC (.int 18)))) tNil))) (tCons (tVar 3) tNil)))))
        { nx := fun _ H' => Q .non H', rt := Q } [some (.ref a), some (.int (k : Int)), some (.int cell), none] (upd H p (.lst [])) := by
      intro cell
      have fin2 : ∀ (c2 : Int), (tSeq (tAsg (tOp (rI (fun _ j => 0 < j) fun i j => .int (i % j)) (tOp (rI CMul fun i j => .int (i * j)) (tOp (rI0 fun i j => .int (i + j)) (tOp (rI0 fun i j => .int (i + j)) (tOp (rI (fun _ j => 0 < j) fun i j => .int (i % j)) (tVar 2) (tC (.int 2147483629))) (tOp (rI CMul fun i j => .int (i * j)) (tC (.int 104729)) (tVar 1))) (tC (.int 11))) (tC (.int 48271))) (tC (.int 2147483647))) (gName 3))
          (tRet (tLst (tCons (tOp (rI CMul fun i j => .int (i * j)) (tVar 2) (tCB (fun xs H Q => (∃ i, xs = [.int i] ∧ Q (.int i) H) ∨ ∃ k, xs = [.bl k] ∧ Q (.int (if k then 1 else 0)) H) (tCons (tGe (tVar 2) (tOp (rI CPow fun i j => .int (i ^ j.toNat)) (tC (.int 10)) (tC (.int 18)))) tNil))) (tCons (tVar 3) tNil)))))
        { nx := fun _ H' => Q .non H', rt := Q } [some (.ref a), some (.int (k : Int)), some (.int c2), none] (upd H p (.lst [])) := by
        intro c2
        walk_at "rd"
        refine ⟨by show (0 : Int) < 2147483629; decide, ?_⟩
        walk_at "rd"
        refine ⟨.inl ⟨by decide, by decide⟩, ?_⟩
        walk_at "rd"
        refine ⟨.inr ⟨by decide, by decide⟩, ?_⟩
        walk_at "rd"
        refine ⟨by show (0 : Int) < 2147483647; decide, ?_⟩
        walk_at "rd"
        refine ⟨⟨by decide, by decide, by decide⟩, ?_⟩
        walk_at "rd"
        refine .inr ⟨_, rfl, ?_⟩
        refine ⟨_, _, rfl, rfl, .inr ?_, ?_⟩
        · split <;> exact ⟨by decide, by decide⟩
        · walk_at "rd"
          refine ⟨l2, fun q hq => h _ q (same_upd2 s1 hq) (Same.free s1 hq) ⟨_, _, upd_same, Int.emod_nonneg _ (by decide), ?_⟩⟩
          have := Int.emod_lt_of_pos ((c2 % 2147483629 + 104729 * (k : Int) + 11) * 48271) (show (0 : Int) < 2147483647 by decide)
          show (c2 % 2147483629 + 104729 * (k : Int) + 11) * 48271 % 2147483647 < 2147483648
          omega
      refine ⟨_, rfl, _, rfl, _, _, rfl, .inl ha1, _, _, rfl, rfl, _, rfl, ?_⟩
      refine ite2 (fun _ => ?_) fun _ => fin2 cell
      refine ⟨_, rfl, _, _, rfl, rfl, by show (0 : Int) < 1000003; decide, ?_⟩
      exact fin2 _
    refine ⟨_, rfl, ?_⟩
    cases ns with
    | nil => exact fin 0
    | cons n ns =>
      have hl : k % (n :: ns).length < (n :: ns).length := Nat.mod_lt _ (by simp)
      walk_at "rd"
      refine ⟨_, _, rfl, .inl ha1, ?_⟩
      walk_at "rd"
      refine ⟨by rw [List.length_map, List.length_cons]; omega, ?_⟩
      have hat : atI ((n :: ns).map V.int) ((k : Int) % (((n :: ns).map V.int).length : Nat)) = some (V.int ((n :: ns)[k % (n :: ns).length])) := by
        rw [List.length_map, ← Int.natCast_emod]
        refine atI_nat ?_
        rw [List.getElem?_map, List.getElem?_eq_getElem hl] <;> rfl
      exact ⟨_, _, _, _, rfl, rfl, ha1, hat, fin _⟩
/-- a draw: any number below the bound -/
def spTake : Sp := fun vs H Q _ => ∃ (l : Addr) (b : Int), vs = [.ref l, .int b] ∧ Pool H l ∧ 0 < b ∧ b < 1073741824 ∧ ∀ (H' : Hp) (r : Int), SameX l H H' → Pool H' l → 0 ≤ r → r < b → Q (.int r) H'
theorem scLawTake : FnScope ["_law_pool_here", "_law_bound", "_law_digit"] ["_law_pool_here", "_law_bound"] (defScope sLawTake) := ⟨rfl, rfl, rfl, by decide +kernel, rfl, by decide +kernel, by decide +kernel⟩
include T in
theorem ok_law_take : Cal P w K mg base 1 "_law_take" spTake [] := by
  obtain ⟨fd, F⟩ := T.d_LawTake
  refine ⟨_, fd, ["_law_pool_here", "_law_bound"], [], F.ok scLawTake (fun vs H Q E h => ?_) (fun cdv A outer s H vs Q E hr h => ⟨_, PSs.nox (pss_cons (ps_if (pt_cmp (pc_gt (pe_ix ix_list (pv 0) pe_int (fun _ _ => rfl)) pe_int)) (pss_cons (ps_set (i := 2) scLawTake.nd rfl (by first | exact Or.inl rfl | exact Or.inr rfl) (pe_op op_mod (pe_ix ix_list (pv 0) pe_int (fun _ _ => rfl)) (pv 1)))
      (pss_cons (ps_asg (pe_op op_fdiv (pe_ix ix_list (pv 0) pe_int (fun _ _ => rfl)) (pv 1)) (pg_sub (pv 0) pe_int set_list))
      (pss_one (ps_ret (pv 2))))) pss_nil)
      (pss_cons (ps_asg (pe_op op_mod (pe_op op_add (pe_op op_mul (pe_ix ix_list (pv 0) pe_int (fun _ _ => rfl)) pe_int) pe_int) pe_int) (pg_sub (pv 0) pe_int set_list))
      (pss_one (ps_ret (pe_op op_mod (pe_op op_fdiv (pe_op op_mod (pe_op op_mul (pe_ix ix_list (pv 0) pe_int (fun _ _ => rfl)) (pe_ix ix_list (pv 0) pe_int (fun _ _ => rfl))) pe_int) pe_int) (pv 1)))))), ?_⟩),
    T.g_law_take, F.kp, F.bindsN (by walk_at "b"), .nil⟩
  · obtain ⟨a, b, rfl, _⟩ := h; rfl
  · obtain ⟨l, b, rfl, ⟨c, x, hl, hx0, hx1⟩, b0, b1, h⟩ := h
    refine ⟨_, rfl, _, _, _, _, rfl, rfl, SqL.of hl, at0, _, _, rfl, rfl, _, rfl, ?_⟩
    refine ite2 (fun z => ?_) fun z => ?_
    · refine ⟨_, rfl, _, _, _, _, rfl, rfl, SqL.of hl, at0, ?_⟩
      walk_at "rd"
      refine ⟨b0, ?_⟩
      refine ⟨_, rfl, _, _, _, _, rfl, rfl, SqL.of hl, at0, ?_⟩
      walk_at "rd"
      refine ⟨⟨b0, b1⟩, ?_⟩
      walk_at "rd"
      refine ⟨l, _, 0, 0, rfl, rfl, hl, rfl, ?_⟩
      exact ⟨_, rfl, h _ _ SameX.upd ⟨_, _, upd_same, hx0, hx1⟩ (Int.emod_nonneg _ (by omega)) (Int.emod_lt_of_pos _ b0)⟩
    · refine ⟨_, rfl, _, _, _, _, rfl, rfl, SqL.of hl, at1, ?_⟩
      walk_at "rd"
      refine ⟨.inr ⟨by decide, by decide⟩, ?_⟩
      walk_at "rd"
      refine ⟨by show (0 : Int) < 2147483647; decide, ?_⟩
      walk_at "rd"
      refine ⟨l, _, 1, 1, rfl, rfl, hl, rfl, ?_⟩
      have y0 : 0 ≤ (x * 48271 + 11) % 2147483647 := Int.emod_nonneg _ (by decide)
      have y1 : (x * 48271 + 11) % 2147483647 < 2147483647 := Int.emod_lt_of_pos _ (by decide)
      refine ⟨_, rfl, _, _, _, _, rfl, rfl, SqL.of upd_same, at1, ?_⟩
      refine ⟨_, rfl, _, _, _, _, rfl, rfl, SqL.of upd_same, at1, ?_⟩
      walk_at "rd"
      refine ⟨.inl ⟨?_, ?_⟩, ?_⟩
      · show -(2 ^ 64) < (x * 48271 + 11) % 2147483647
        omega
      · show (x * 48271 + 11) % 2147483647 < 2 ^ 64
        omega
      walk_at "rd"
      refine ⟨by show (0 : Int) < 2147483629; decide, ?_⟩
      walk_at "rd"
      refine ⟨⟨by decide, by decide⟩, ?_⟩
      walk_at "rd"
      refine ⟨b0, ?_⟩
      exact h _ _ SameX.upd ⟨_, _, upd_same, y0, by omega⟩ (Int.emod_nonneg _ (by omega)) (Int.emod_lt_of_pos _ b0)
theorem two_emod (x : Int) : x % 2 = 0 ∨ x % 2 = 1 := by omega
/-- a drawn number: small enough -/
def spInteger : Sp := fun vs H Q _ => ∃ (l : Addr), vs = [.ref l] ∧ Pool H l ∧ ∀ (H' : Hp) (r : Int), SameX l H H' → Pool H' l → r.natAbs < 2 ^ 100 → Q (.int r) H'
theorem scLawInteger : FnScope ["_law_pool_here", "_law_way"] ["_law_pool_here"] (defScope sLawInteger) := ⟨rfl, rfl, rfl, by decide +kernel, rfl, by decide +kernel, by decide +kernel⟩
include T in
theorem ok_law_integer : Cal P w K mg base 2 "_law_integer" spInteger [] := by
  obtain ⟨fd, F⟩ := T.d_LawInteger
  refine ⟨_, fd, ["_law_pool_here"], [], F.ok scLawInteger (fun vs H Q E h => ?_) (fun cdv A outer s H vs Q E hr h => ⟨_, PSs.nox (pss_cons (ps_set (i := 1) scLawInteger.nd rfl (by first | exact Or.inl rfl | exact Or.inr rfl) (pe_c (ok_law_take T) hr (by decide) (pa_cons (pv 0) (pa_cons pe_int pa_nil))))
      (pss_cons (ps_if (pt_cmp (pc_lt (pv 1) pe_int)) (pss_one (ps_ret (pe_op op_sub (pe_c (ok_law_take T) hr (by decide) (pa_cons (pv 0) (pa_cons pe_int pa_nil))) pe_int))) pss_nil)
      (pss_cons (ps_if (pt_cmp (pc_eqI (pv 1) pe_int)) (pss_one (ps_ret (pe_op op_sub (pe_c (ok_law_take T) hr (by decide) (pa_cons (pv 0) (pa_cons pe_int pa_nil))) pe_int))) pss_nil)
      (pss_one (ps_ret (pe_op op_mul (pe_op op_add (pe_op op_mul (pe_c (ok_law_take T) hr (by decide) (pa_cons (pv 0) (pa_cons (pe_op op_pow pe_int pe_int) pa_nil))) (pe_op op_pow pe_int pe_int)) (pe_c (ok_law_take T) hr (by decide) (pa_cons (pv 0) (pa_cons (pe_op op_pow pe_int pe_int) pa_nil)))) (pe_ix ix_list (pe_lst (pa_cons pe_int (pa_cons (pe_un un_neg pe_int) pa_nil))) (pe_c (ok_law_take T) hr (by decide) (pa_cons (pv 0) (pa_cons pe_int pa_nil))) (fun _ _ => rfl)))))))), ?_⟩),
    T.g_law_integer, F.kp, F.bindsN (by walk_at "b"), .nil⟩
  · obtain ⟨a, rfl, _⟩ := h; rfl
  · obtain ⟨l, rfl, hp, h⟩ := h
    iterate 1 walk_at "r1"
    refine ⟨l, 4, rfl, hp, by decide, by decide, fun H1 w1 s1 p1 _ _ => ?_⟩
    walk_at "rd"
    refine ite2 (fun z => ?_) fun z => ?_
    · iterate 1 walk_at "r1"
      refine ⟨l, 13, rfl, p1, by decide, by decide, fun H2 w2 s2 p2 h0 h1 => ?_⟩
      walk_at "rd"
      refine h H2 _ (s1.trans s2) p2 ?_
      show (w2 - 6).natAbs < _
      have e : (100 : Nat) < 2 ^ 100 := by decide
      omega
    · walk_at "rd"
      refine ite2 (fun z => ?_) fun z => ?_
      · iterate 1 walk_at "r1"
        refine ⟨l, 2001, rfl, p1, by decide, by decide, fun H2 w2 s2 p2 h0 h1 => ?_⟩
        walk_at "rd"
        refine h H2 _ (s1.trans s2) p2 ?_
        show (w2 - 1000).natAbs < _
        have e : (100000 : Nat) < 2 ^ 100 := by decide
        omega
      · walk_at "rd"
        refine ⟨⟨by decide, by decide, by decide⟩, ?_⟩
        refine ⟨l, 1000000, rfl, p1, by decide, by decide, fun H2 w2 s2 p2 a0 a1 => ?_⟩
        walk_at "rd"
        refine ⟨⟨by decide, by decide, by decide⟩, ?_⟩
        walk_at "rd"
        refine ⟨.inl ⟨by omega, by omega⟩, ?_⟩
        walk_at "rd"
        refine ⟨⟨by decide, by decide, by decide⟩, ?_⟩
        refine ⟨l, 1000000000, rfl, p2, by decide, by decide, fun H3 w3 s3 p3 b0 b1 => ?_⟩
        walk_at "rd"
        refine ⟨l2, fun q hq => ?_⟩
        have hlq : l ≠ q := by obtain ⟨_, _, e, _⟩ := p3; exact ne_none e hq
        walk_at "rd"
        refine ⟨p3.mono (same_upd hq), by decide, by decide, fun H4 w4 s4 p4 c0 c1 => ?_⟩
        have hq4 : H4 q = some (.lst [.int 1, .int (-1)]) := s4 _ _ hlq.symm upd_same
        have s14 := ((s1.trans s2).trans s3).trans ((SameX.of (same_upd hq)).trans s4)
        have hc : w4 = 0 ∨ w4 = 1 := by omega
        have key : ∀ g : Int, g = 1 ∨ g = -1 → ((w2 * 10 ^ 18 + w3) * g).natAbs < 2 ^ 100 := fun g hg => by
          have e : (1000000 * 10 ^ 18 + 1000000000 : Nat) < 2 ^ 100 := by decide
          rcases hg with rfl | rfl <;> omega
        rcases hc with rfl | rfl
        · refine ⟨_, _, _, _, rfl, rfl, SqL.of hq4, at0, ?_⟩
          walk_at "rd"
          exact ⟨.inr ⟨by decide, by decide⟩, h H4 _ s14 p4 (key 1 (.inl rfl))⟩
        · refine ⟨_, _, _, _, rfl, rfl, SqL.of hq4, at1, ?_⟩
          walk_at "rd"
          exact ⟨.inr ⟨by decide, by decide⟩, h H4 _ s14 p4 (key (-1) (.inr rfl))⟩
end
end Hs
end

/-! HsD17 -/
section
set_option Elab.async false
set_option linter.all false
set_option maxRecDepth 100000
set_option maxHeartbeats 4000000
namespace Hs
open PySem PySem.Spec PyProof.Rows L2
local macro_rules | `(tactic| walk_at "ix") => `(tactic| refine ⟨_, _, _, _, rfl, rfl, SqT.of (by assumption), (by first | exact at0 | exact at1 | exact at2 | exact at3), ?_⟩)
local macro_rules | `(tactic| walk_at "fl") => `(tactic| refine ⟨_, _, _, _, _, rfl, (by assumption), (by first | exact Tx.c_Band (by assumption) | exact Tx.c_Extents (by assumption) | exact Tx.c_Walker (by assumption)), (by first
  | exact Tx.n_Band_low_end (by assumption) | exact Tx.n_Band_high_end (by assumption) | exact Tx.n_Extents_width (by assumption) | exact Tx.n_Extents_climb (by assumption) | exact Tx.n_Extents_depth (by assumption) | exact Tx.n_Extents_base (by assumption) | exact Tx.n_Extents_limit (by assumption)
  | exact Tx.n_Walker_limits (by assumption) | exact Tx.n_Walker_own_players (by assumption) | exact Tx.n_Walker_own_observer (by assumption) | exact Tx.n_Walker_is_observed (by assumption) | exact Tx.n_Walker_first_state (by assumption) | exact Tx.n_Walker_situation (by assumption) | exact Tx.n_Walker_own_actions (by assumption) | exact Tx.n_Walker_earlier (by assumption)), rfl, ?_⟩)
local macro_rules | `(tactic| walk_at "r1") => `(tactic| first | refine ⟨_, rfl, ?_⟩ | refine ⟨_, _, rfl, rfl, ?_⟩ | refine ⟨_, _, rfl, ?_⟩ | walk_at "ix" | walk_at "fl")
local macro_rules | `(tactic| walk_at "rd") => `(tactic| repeat walk_at "r1")
local macro_rules | `(tactic| walk_at "b") => `(tactic| first | (exact fun _ _ _ _ _ _ us hl => match us, hl with | [_], _ => rfl) | (exact fun _ _ _ _ _ _ us hl => match us, hl with | [_, _], _ => rfl) | (exact fun _ _ _ _ _ _ us hl => match us, hl with | [_, _, _], _ => rfl) | (exact fun _ _ _ _ _ _ us hl => match us, hl with | [_, _, _, _], _ => rfl))
section
variable {P : Program} {w : World} {K : PySem.W.Frag} {mg : Str → Option Value} {base : Heap} (T : Tx K mg)
set_option exponentiation.threshold 2000
/-! ### the law's ends, inside -/
def spEnds : Sp := fun vs H Q _ => ∃ (l : Addr) (low high : Int), vs = [.ref l, .int low, .int high] ∧ Pool H l ∧ ∀ (H' : Hp) (v : V) (lo hi : Option Int), SameX l H H' → Pool H' l → IsRm H' v lo hi → (∀ k, lo = some k → k ≤ low) → (∀ k, hi = some k → high ≤ k) → Q v H'
theorem at4 {y0 y1 y2 y3 : Int} {r : Int} (h0 : 0 ≤ r) (h1 : r < 4) (a0 : 0 ≤ y0) (a1 : 0 ≤ y1) (a2 : 0 ≤ y2) (a3 : 0 ≤ y3) : ∃ y : Int, atI [V.int y0, V.int y1, V.int y2, V.int y3] r = some (V.int y) ∧ 0 ≤ y := by
  have hc : r = 0 ∨ r = 1 ∨ r = 2 ∨ r = 3 := by omega
  rcases hc with rfl | rfl | rfl | rfl
  · exact ⟨y0, at0, a0⟩
  · exact ⟨y1, at1, a1⟩
  · exact ⟨y2, at2, a2⟩
  · exact ⟨y3, at3, a3⟩
theorem scLawEnds : FnScope ["_law_pool_here", "_law_low", "_law_high", "_law_below", "_law_above", "_law_way"] ["_law_pool_here", "_law_low", "_law_high"] (defScope sLawEnds) := ⟨rfl, rfl, rfl, by decide +kernel, rfl, by decide +kernel, by decide +kernel⟩
include T in
theorem ok_law_ends : Cal P w K mg base 2 "_law_ends" spEnds [] := by
  obtain ⟨fd, F⟩ := T.d_LawEnds
  refine ⟨_, fd, ["_law_pool_here", "_law_low", "_law_high"], [], F.ok scLawEnds (fun vs H Q E h => ?_) (fun cdv A outer s H vs Q E hr h => ⟨_, PSs.nox (pss_cons (ps_set (i := 3) scLawEnds.nd rfl (by first | exact Or.inl rfl | exact Or.inr rfl) (pe_ix ix_list (pe_lst (pa_cons pe_int (pa_cons pe_int (pa_cons (pe_c (ok_law_take T) hr (by decide) (pa_cons (pv 0) (pa_cons pe_int pa_nil))) (pa_cons (pe_op op_pow pe_int pe_int) pa_nil))))) (pe_c (ok_law_take T) hr (by decide) (pa_cons (pv 0) (pa_cons pe_int pa_nil))) (fun _ _ => rfl)))
      (pss_cons (ps_set (i := 4) scLawEnds.nd rfl (by first | exact Or.inl rfl | exact Or.inr rfl) (pe_ix ix_list (pe_lst (pa_cons pe_int (pa_cons pe_int (pa_cons (pe_c (ok_law_take T) hr (by decide) (pa_cons (pv 0) (pa_cons pe_int pa_nil))) (pa_cons (pe_op op_pow pe_int pe_int) pa_nil))))) (pe_c (ok_law_take T) hr (by decide) (pa_cons (pv 0) (pa_cons pe_int pa_nil))) (fun _ _ => rfl)))
      (pss_cons (ps_set (i := 5) scLawEnds.nd rfl (by first | exact Or.inl rfl | exact Or.inr rfl) (pe_c (ok_law_take T) hr (by decide) (pa_cons (pv 0) (pa_cons pe_int pa_nil))))
      (pss_one (ps_ret (pe_tup (pa_cons (pe_ix ix_list (pe_lst (pa_cons (pe_op op_sub (pv 1) (pv 3)) (pa_cons pe_non pa_nil))) (pe_callTy call_int1 rfl T.f_int boot_int (pa_cons (pe_cmpR op_in_seq (pv 5) (pe_lst (pa_cons pe_int (pa_cons pe_int pa_nil))) rfl) pa_nil)) (fun _ _ => rfl)) (pa_cons (pe_ix ix_list (pe_lst (pa_cons (pe_op op_add (pv 2) (pv 4)) (pa_cons pe_non pa_nil))) (pe_callTy call_int1 rfl T.f_int boot_int (pa_cons (pe_cmpR op_in_seq (pv 5) (pe_lst (pa_cons pe_int (pa_cons pe_int pa_nil))) rfl) pa_nil)) (fun _ _ => rfl)) pa_nil)))))))), ?_⟩),
    T.g_law_ends, F.kp, F.bindsN (by walk_at "b"), .nil⟩
  · obtain ⟨a, _, _, rfl, _⟩ := h; rfl
  · obtain ⟨l, low, high, rfl, hp, h⟩ := h
    iterate 1 walk_at "r1"
    refine ⟨l, 5, rfl, hp, by decide, by decide, fun H1 r1 s1 p1 a0 a1 => ?_⟩
    walk_at "rd"
    refine ⟨⟨by decide, by decide, by decide⟩, ?_⟩
    refine ⟨l4, fun q hq => ?_⟩
    have hlq : l ≠ q := by obtain ⟨_, _, e, _⟩ := p1; exact ne_none e hq
    iterate 1 walk_at "r1"
    refine ⟨l, 4, rfl, p1.mono (same_upd hq), by decide, by decide, fun H2 r2 s2 p2 b0 b1 => ?_⟩
    obtain ⟨below, hb, hb0⟩ := at4 (y0 := 0) (y1 := 1) (y2 := r1) (y3 := 10 ^ 22) b0 b1 (by decide) (by decide) a0 (by decide)
    have s12 := (s1.trans (SameX.of (same_upd hq))).trans s2
    refine ⟨_, _, _, _, rfl, rfl, SqL.of (s2 _ _ hlq.symm upd_same), hb, ?_⟩
    iterate 1 walk_at "r1"
    refine ⟨l, 5, rfl, p2, by decide, by decide, fun H3 r3 s3 p3 a0 a1 => ?_⟩
    walk_at "rd"
    refine ⟨⟨by decide, by decide, by decide⟩, ?_⟩
    refine ⟨l4, fun q2 hq2 => ?_⟩
    have hlq2 : l ≠ q2 := by obtain ⟨_, _, e, _⟩ := p3; exact ne_none e hq2
    iterate 1 walk_at "r1"
    refine ⟨l, 4, rfl, p3.mono (same_upd hq2), by decide, by decide, fun H4 r4 s4 p4 b0 b1 => ?_⟩
    obtain ⟨above, ha, ha0⟩ := at4 (y0 := 0) (y1 := 1) (y2 := r3) (y3 := 10 ^ 22) b0 b1 (by decide) (by decide) a0 (by decide)
    have s14 := ((s12.trans s3).trans (SameX.of (same_upd hq2))).trans s4
    refine ⟨_, _, _, _, rfl, rfl, SqL.of (s4 _ _ hlq2.symm upd_same), ha, ?_⟩
    iterate 1 walk_at "r1"
    refine ⟨l, 6, rfl, p4, by decide, by decide, fun H5 r5 s5 p5 _ _ => ?_⟩
    have s15 := s14.trans s5
    walk_at "rd"
    refine ⟨l2, fun e1 he1 => ?_⟩
    have s16 := s15.trans (SameX.of (same_upd (o := .lst [.int (low - below), .non]) he1))
    walk_at "rd"
    refine ⟨l2, fun e2 he2 => ?_⟩
    have n12 : e1 ≠ e2 := ne_none upd_same he2
    have h1l : upd (upd H5 e1 (.lst [.int (low - below), .non])) e2 (.lst [.int 1, .int 3]) e1 = some (.lst [.int (low - below), .non]) := by rw [upd_ne n12, upd_same]
    refine ⟨_, _, rfl, .inl (SqL.of upd_same), rfl, rfl, ?_⟩
    have hlo : ∀ c : Bool, ∃ lo : Option Int, atI [V.int (low - below), V.non] (if c then 1 else 0) = some (vO lo) ∧ ∀ k, lo = some k → k ≤ low := fun c => by
      cases c with
      | true => exact ⟨none, at1, fun k hk => nomatch hk⟩
      | false => exact ⟨some (low - below), at0, fun k hk => by cases hk; omega⟩
    have hhi : ∀ c : Bool, ∃ hi : Option Int, atI [V.int (high + above), V.non] (if c then 1 else 0) = some (vO hi) ∧ ∀ k, hi = some k → high ≤ k := fun c => by
      cases c with
      | true => exact ⟨none, at1, fun k hk => nomatch hk⟩
      | false => exact ⟨some (high + above), at0, fun k hk => by cases hk; omega⟩
    refine .inr ⟨_, rfl, ?_⟩
    obtain ⟨lo, hlo1, hlo2⟩ := hlo (inV (.int r5) [.int 1, .int 3])
    refine ⟨_, _, _, _, rfl, rfl, SqL.of h1l, hlo1, ?_⟩
    walk_at "rd"
    refine ⟨l2, fun e3 he3 => ?_⟩
    walk_at "rd"
    refine ⟨l2, fun e4 he4 => ?_⟩
    have n34 : e3 ≠ e4 := ne_none upd_same he4
    refine ⟨_, _, rfl, .inl (SqL.of upd_same), rfl, rfl, ?_⟩
    refine .inr ⟨_, rfl, ?_⟩
    obtain ⟨hi, hhi1, hhi2⟩ := hhi (inV (.int r5) [.int 2, .int 3])
    refine ⟨_, _, _, _, rfl, rfl, SqL.of (by rw [upd_ne n34, upd_same]), hhi1, ?_⟩
    refine ⟨l2, fun t ht => ?_⟩
    have s9 := (((((SameX.of (l := l) (same_upd (o := .lst [.int (low - below), .non]) he1)).trans (SameX.of (same_upd (o := .lst [.int 1, .int 3]) he2))).trans (SameX.of (same_upd (o := .lst [.int (high + above), .non]) he3))).trans (SameX.of (same_upd (o := .lst [.int 2, .int 3]) he4)))).trans (SameX.of (same_upd (o := .tup [vO lo, vO hi]) ht))
    refine h _ _ lo hi (s15.trans s9) ?_ ⟨t, rfl, upd_same⟩ hlo2 hhi2
    exact ((((p5.mono (same_upd he1)).mono (same_upd he2)).mono (same_upd he3)).mono (same_upd he4)).mono (same_upd ht)
def spInside : Sp := fun vs H Q _ => ∃ (v : V) (b : Bnd) (n : Int), vs = [v, .int n] ∧ IsRm H v b.lo b.hi ∧ Q (.bl (b.has n)) H
theorem scLawInside : FnScope ["_law_ends_here", "_law_level"] ["_law_ends_here", "_law_level"] (defScope sLawInside) := ⟨rfl, rfl, rfl, by decide +kernel, rfl, by decide +kernel, by decide +kernel⟩
include T in
theorem ok_law_inside : Cal P w K mg base 1 "_law_inside" spInside [] := by
  obtain ⟨fd, F⟩ := T.d_LawInside
  refine ⟨_, fd, ["_law_ends_here", "_law_level"], [], F.ok scLawInside (fun vs H Q E h => ?_) (fun cdv A outer s H vs Q E hr h => ⟨_, PSs.nox (pss_one (ps_ret (pe_and (pe_or (pe_cmp (pc_isN (pe_ix ix_tup (pv 0) pe_int (fun _ _ => rfl)))) (pe_one (pe_cmp (pc_le (pe_ix ix_tup (pv 0) pe_int (fun _ _ => rfl)) (pv 1))))) (pe_one (pe_or (pe_cmp (pc_isN (pe_ix ix_tup (pv 0) pe_int (fun _ _ => rfl)))) (pe_one (pe_cmp (pc_le (pv 1) (pe_ix ix_tup (pv 0) pe_int (fun _ _ => rfl)))))))))), ?_⟩),
    T.g_law_inside, F.kp, F.bindsN (by walk_at "b"), .nil⟩
  · obtain ⟨a, b, n, rfl, _⟩ := h; rfl
  · obtain ⟨v, ⟨lo, hi⟩, n, rfl, ⟨t, rfl, ht⟩, h⟩ := h
    cases lo with
    | none =>
      cases hi with
      | none =>
        walk_at "rd"
        exact h
      | some k =>
        walk_at "rd"
        exact h
    | some l =>
      have key : ∀ hi : Option Int, (⟨some l, hi⟩ : Bnd).has n = (decide (l ≤ n) && (⟨none, hi⟩ : Bnd).has n) := fun hi => by unfold Bnd.has; simp
      rw [key] at h
      have fF : ¬ (decide (l ≤ n) = true) → Q (.bl false) H := fun z => by
        rw [Bool.eq_false_iff.mpr z, Bool.false_and] at h
        exact h
      have fT : decide (l ≤ n) = true → Q (.bl ((⟨none, hi⟩ : Bnd).has n)) H := fun z => by
        rw [z, Bool.true_and] at h
        exact h
      cases hi with
      | none =>
        walk_at "rd"
        refine ite2 (fun z => ?_) fun z => ?_
        · walk_at "rd"
          exact fT z
        · exact fF z
      | some k =>
        walk_at "rd"
        refine ite2 (fun z => ?_) fun z => ?_
        · walk_at "rd"
          exact fT z
        · exact fF z
end
end Hs
end

/-! HsD18 -/
section
set_option Elab.async false
set_option linter.all false
set_option maxRecDepth 100000
set_option maxHeartbeats 4000000
namespace Hs
open PySem PySem.Spec PyProof.Rows L2
local macro_rules | `(tactic| walk_at "ix") => `(tactic| refine ⟨_, _, _, _, rfl, rfl, SqT.of (by assumption), (by first | exact at0 | exact at1 | exact at2 | exact at3), ?_⟩)
local macro_rules | `(tactic| walk_at "fl") => `(tactic| refine ⟨_, _, _, _, _, rfl, (by assumption), (by first | exact Tx.c_Band (by assumption) | exact Tx.c_Extents (by assumption) | exact Tx.c_Walker (by assumption)), (by first
  | exact Tx.n_Band_low_end (by assumption) | exact Tx.n_Band_high_end (by assumption) | exact Tx.n_Extents_width (by assumption) | exact Tx.n_Extents_climb (by assumption) | exact Tx.n_Extents_depth (by assumption) | exact Tx.n_Extents_base (by assumption) | exact Tx.n_Extents_limit (by assumption)
  | exact Tx.n_Walker_limits (by assumption) | exact Tx.n_Walker_own_players (by assumption) | exact Tx.n_Walker_own_observer (by assumption) | exact Tx.n_Walker_is_observed (by assumption) | exact Tx.n_Walker_first_state (by assumption) | exact Tx.n_Walker_situation (by assumption) | exact Tx.n_Walker_own_actions (by assumption) | exact Tx.n_Walker_earlier (by assumption)), rfl, ?_⟩)
local macro_rules | `(tactic| walk_at "r1") => `(tactic| first | refine ⟨_, rfl, ?_⟩ | refine ⟨_, _, rfl, rfl, ?_⟩ | refine ⟨_, _, rfl, ?_⟩ | walk_at "ix" | walk_at "fl")
local macro_rules | `(tactic| walk_at "rd") => `(tactic| repeat walk_at "r1")
local macro_rules | `(tactic| walk_at "b") => `(tactic| first | (exact fun _ _ _ _ _ _ us hl => match us, hl with | [_], _ => rfl) | (exact fun _ _ _ _ _ _ us hl => match us, hl with | [_, _], _ => rfl) | (exact fun _ _ _ _ _ _ us hl => match us, hl with | [_, _, _], _ => rfl) | (exact fun _ _ _ _ _ _ us hl => match us, hl with | [_, _, _, _], _ => rfl))
section
variable {P : Program} {w : World} {K : PySem.W.Frag} {mg : Str → Option Value} {base : Heap} (T : Tx K mg)
set_option exponentiation.threshold 2000
/-! ### the law's world -/
structure WSm (p : P3) : Prop where
  x : p.x.natAbs < 2 ^ 110
  h : p.h.natAbs < 2 ^ 110
  s : p.s.natAbs < 2 ^ 110
theorem IsP.monoP {H H' : Hp} {v : V} {p : P3} {l : Addr} (h : IsP H v p) (s : SameX l H H') (hl : Pool H l) : IsP H' v p := let ⟨a, e, q⟩ := h; ⟨a, e, s.tup hl q⟩
theorem sort2 {x y : Int} {ns : List Int} (h1 : ns.Perm [x, y]) (h2 : ns.Pairwise (· ≤ ·)) : ∃ a b, ns = [a, b] ∧ a ≤ b ∧ a ≤ x ∧ x ≤ b ∧ a ≤ y ∧ y ≤ b := by
  have hl := h1.length_eq
  match ns, hl, h1, h2 with
  | [a, b], _, h1, h2 =>
    have hab : a ≤ b := by simpa using h2
    have mx : x ∈ [a, b] := h1.mem_iff.mpr (by simp)
    have my : y ∈ [a, b] := h1.mem_iff.mpr (by simp)
    simp only [List.mem_cons, List.not_mem_nil, or_false] at mx my
    refine ⟨a, b, rfl, hab, ?_, ?_, ?_, ?_⟩ <;> omega
def spWorld : Sp := fun vs H Q _ => ∃ (l : Addr), vs = [.ref l] ∧ Pool H l ∧ ∀ (H' : Hp) (w : Addr) (v1 v2 v3 : V) (p q : P3) (b : Bnd), SameX l H H' → Pool H' l → H' w = some (.lst [v1, v2, v3]) → IsP H' v1 p → IsP H' v2 q → IsRm H' v3 b.lo b.hi → b.Two → b.has p.h = true → b.has q.h = true → WSm p → WSm q → Q (.ref w) H'
theorem scLawWorld : FnScope ["_law_pool_here", "_law_start", "_law_x", "_law_h", "_law_aim", "_law_both"] ["_law_pool_here"] (defScope sLawWorld) := ⟨rfl, rfl, rfl, by decide +kernel, rfl, by decide +kernel, by decide +kernel⟩
include T in
theorem ok_law_world : Cal P w K mg base 3 "_law_world" spWorld [] := by
  obtain ⟨fd, F⟩ := T.d_LawWorld
  refine ⟨_, fd, ["_law_pool_here"], [], F.ok scLawWorld (fun vs H Q E h => ?_) (fun cdv A outer s H vs Q E hr h => ⟨_, PSs.nox (pss_cons (ps_set (i := 1) scLawWorld.nd rfl (by first | exact Or.inl rfl | exact Or.inr rfl) (pe_tup (pa_cons (pe_c (ok_law_integer T) hr (by decide) (pa_cons (pv 0) pa_nil)) (pa_cons (pe_c (ok_law_integer T) hr (by decide) (pa_cons (pv 0) pa_nil)) (pa_cons (pe_c (ok_law_integer T) hr (by decide) (pa_cons (pv 0) pa_nil)) pa_nil)))))
      (pss_cons (ps_par (i := 2) (j := 3) rfl scLawWorld.nd rfl rfl (by decide) rfl rfl (pa_cons (pe_op op_sub (pe_c (ok_law_take T) hr (by decide) (pa_cons (pv 0) (pa_cons pe_int pa_nil))) pe_int) (pa_cons (pe_op op_sub (pe_c (ok_law_take T) hr (by decide) (pa_cons (pv 0) (pa_cons pe_int pa_nil))) pe_int) pa_nil)) rfl)
      (pss_cons (ps_set (i := 4) scLawWorld.nd rfl (by first | exact Or.inl rfl | exact Or.inr rfl) (pe_tup (pa_cons (pe_op op_add (pe_ix ix_tup (pv 1) pe_int (fun _ _ => rfl)) (pv 2)) (pa_cons (pe_op op_add (pe_ix ix_tup (pv 1) pe_int (fun _ _ => rfl)) (pv 3)) (pa_cons (pe_op op_sub (pe_op op_add (pe_op op_add (pe_ix ix_tup (pv 1) pe_int (fun _ _ => rfl)) (pe_op op_mul (pe_ix ix_tup (pv 1) pe_int (fun _ _ => rfl)) (pv 2))) (pe_c (ok_law_take T) hr (by decide) (pa_cons (pv 0) (pa_cons pe_int pa_nil)))) pe_int) pa_nil)))))
      (pss_cons (ps_if (pt_cmp (pc_eqI (pe_c (ok_law_take T) hr (by decide) (pa_cons (pv 0) (pa_cons pe_int pa_nil))) pe_int)) (pss_one (ps_set (i := 4) scLawWorld.nd rfl (by first | exact Or.inl rfl | exact Or.inr rfl) (pv 1))) pss_nil)
      (pss_cons (ps_set (i := 5) scLawWorld.nd rfl (by first | exact Or.inl rfl | exact Or.inr rfl) (pe_callB cr_sorted rfl T.f_sorted boot_sorted (pa_cons (pe_lst (pa_cons (pe_ix ix_tup (pv 1) pe_int (fun _ _ => rfl)) (pa_cons (pe_ix ix_tup (pv 4) pe_int (fun _ _ => rfl)) pa_nil))) pa_nil)))
      (pss_one (ps_ret (pe_lst (pa_cons (pv 1) (pa_cons (pv 4) (pa_cons (pe_c (ok_law_ends T) hr (by decide) (pa_cons (pv 0) (pa_cons (pe_ix ix_list (pv 5) pe_int (fun _ _ => rfl)) (pa_cons (pe_op op_add (pe_ix ix_list (pv 5) pe_int (fun _ _ => rfl)) pe_int) pa_nil)))) pa_nil))))))))))), ?_⟩),
    T.g_law_world, F.kp, F.bindsN (by walk_at "b"), .nil⟩
  · obtain ⟨a, rfl, _⟩ := h; rfl
  · obtain ⟨l, rfl, hp, h⟩ := h
    iterate 1 walk_at "r1"
    refine ⟨l, rfl, hp, fun H1 x1 s1 p1 b1 => ?_⟩
    iterate 1 walk_at "r1"
    refine ⟨l, rfl, p1, fun H2 x2 s2 p2 b2 => ?_⟩
    iterate 1 walk_at "r1"
    refine ⟨l, rfl, p2, fun H3 x3 s3 p3 b3 => ?_⟩
    refine ⟨l3, fun ta hta => ?_⟩
    have p4 := p3.mono (same_upd (o := .tup [.int x1, .int x2, .int x3]) hta)
    have t4 : upd H3 ta (.tup [.int x1, .int x2, .int x3]) ta = some (.tup [.int x1, .int x2, .int x3]) := upd_same
    have s4 := ((s1.trans s2).trans s3).trans (SameX.of (same_upd (o := .tup [.int x1, .int x2, .int x3]) hta))
    generalize upd H3 ta (.tup [.int x1, .int x2, .int x3]) = H4 at p4 t4 s4 ⊢
    iterate 1 walk_at "r1"
    refine ⟨l, 9, rfl, p4, by decide, by decide, fun H5 dx s5 p5 c0 c1 => ?_⟩
    iterate 2 walk_at "r1"
    refine ⟨l, 9, rfl, p5, by decide, by decide, fun H6 dh s6 p6 d0 d1 => ?_⟩
    have t6 := (s5.trans s6).tup p4 t4
    have s46 := (s4.trans s5).trans s6
    walk_at "rd"
    refine ⟨.inr ⟨by omega, by omega⟩, ?_⟩
    iterate 2 walk_at "r1"
    refine ⟨l, 25, rfl, p6, by decide, by decide, fun H7 ds s7 p7 e0 e1 => ?_⟩
    walk_at "rd"
    refine ⟨l3, fun tb htb => ?_⟩
    have p8 := p7.mono (same_upd (o := .tup [.int (x1 + (dx - 4)), .int (x2 + (dh - 4)), .int (x3 + x2 * (dx - 4) + ds - 12)]) htb)
    have t8 : upd H7 tb (.tup [.int (x1 + (dx - 4)), .int (x2 + (dh - 4)), .int (x3 + x2 * (dx - 4) + ds - 12)]) tb = some (.tup [.int (x1 + (dx - 4)), .int (x2 + (dh - 4)), .int (x3 + x2 * (dx - 4) + ds - 12)]) := upd_same
    have s8 := (s46.trans s7).trans (SameX.of (same_upd (o := .tup [.int (x1 + (dx - 4)), .int (x2 + (dh - 4)), .int (x3 + x2 * (dx - 4) + ds - 12)]) htb))
    have ta8 := (same_upd (o := .tup [.int (x1 + (dx - 4)), .int (x2 + (dh - 4)), .int (x3 + x2 * (dx - 4) + ds - 12)]) htb) _ _ (s7.tup p6 t6)
    generalize upd H7 tb (.tup [.int (x1 + (dx - 4)), .int (x2 + (dh - 4)), .int (x3 + x2 * (dx - 4) + ds - 12)]) = H8 at p8 t8 s8 ta8 ⊢
    iterate 1 walk_at "r1"
    refine ⟨l, 6, rfl, p8, by decide, by decide, fun H9 r9 s9 p9 _ _ => ?_⟩
    have ta9 := s9.tup p8 ta8
    have tb9 := s9.tup p8 t8
    have s89 := s8.trans s9
    walk_at "rd"
    have sp : WSm ⟨x1, x2, x3⟩ := by
      have e : (2 : Nat) ^ 100 < 2 ^ 110 := by decide
      exact ⟨Nat.lt_trans b1 e, Nat.lt_trans b2 e, Nat.lt_trans b3 e⟩
    have sq : WSm ⟨x1 + (dx - 4), x2 + (dh - 4), x3 + x2 * (dx - 4) + ds - 12⟩ := by
      have e : (2 : Nat) ^ 100 * 10 + 100 < 2 ^ 110 := by decide
      have m : (x2 * (dx - 4)).natAbs ≤ 2 ^ 100 * 4 := by
        rw [Int.natAbs_mul]
        exact Nat.mul_le_mul (Nat.le_of_lt b2) (by omega)
      have key : ∀ y : Int, y.natAbs < 2 ^ 100 * 10 + 100 → y.natAbs < 2 ^ 110 := fun y hy => Nat.lt_trans hy e
      refine ⟨key _ ?_, key _ ?_, key _ ?_⟩
      · show (x1 + (dx - 4)).natAbs < _
        generalize (2 : Nat) ^ 100 = A at *
        omega
      · show (x2 + (dh - 4)).natAbs < _
        generalize (2 : Nat) ^ 100 = A at *
        omega
      · show (x3 + x2 * (dx - 4) + ds - 12).natAbs < _
        generalize x2 * (dx - 4) = M at *
        generalize (2 : Nat) ^ 100 = A at *
        omega
    have fin : ∀ (tq : Addr) (q : P3), H9 tq = some (.tup [.int q.x, .int q.h, .int q.s]) → WSm q →
        tSeq (tAsg (tCB (rSorted K) (tCons (tLst (tCons (tOp (rIxT K) (tVar 1) (tC (.int 1))) (tCons (tOp (rIxT K) (tVar 4) (tC (.int 1))) tNil))) tNil)) (gName 5))
          (tRet (tLst (tCons (tVar 1) (tCons (tVar 4) (tCons (tCall spEnds [] E0 (tCons (tVar 0) (tCons (tOp (rIxL K) (tVar 5) (tC (.int 0))) (tCons (tOp (rI0 fun i j => .int (i + j)) (tOp (rIxL K) (tVar 5) (tC (.int 1))) (tC (.int 1))) tNil)))) tNil)))))
          { nx := fun _ H' => Q .non H', rt := Q } [some (.ref l), some (.ref ta), some (.int (dx - 4)), some (.int (dh - 4)), some (.ref tq), none] H9 := by
      intro tq q htq hq
      walk_at "rd"
      refine ⟨l2, fun y hy => ?_⟩
      have sy := same_upd (o := .lst [.int x2, .int q.h]) hy
      refine ⟨y, [x2, q.h], rfl, SqL.of upd_same, by show 2 < 64; decide, fun ns p hperm hsort hp' => ?_⟩
      obtain ⟨a, b, rfl, hab, ha1, ha2, ha3, ha4⟩ := sort2 hperm hsort
      have sz := same_upd2 sy (o := .lst ([a, b].map V.int)) hp'
      refine ⟨_, rfl, _, rfl, _, rfl, _, rfl, _, _, _, _, rfl, rfl, SqL.of upd_same, at0, _, rfl, _, _, _, _, rfl, rfl, SqL.of upd_same, at1, _, _, rfl, rfl, ?_⟩
      refine ⟨l, a, b + 1, rfl, p9.mono sz, fun H' v lo hi s' p' hv hlo hhi => ?_⟩
      have sP : SameX l H9 H' := (SameX.of sz).trans s'
      refine ⟨l3, fun w hw => ?_⟩
      have sw := same_upd (o := .lst [.ref ta, .ref tq, v]) hw
      refine h _ w _ _ _ ⟨x1, x2, x3⟩ q ⟨lo, hi⟩ ((s89.trans sP).trans (SameX.of sw)) (p'.mono sw) upd_same ⟨ta, rfl, sw _ _ (sP.tup p9 ta9)⟩ ⟨tq, rfl, sw _ _ (sP.tup p9 htq)⟩ (hv.mono sw) ?_ ?_ ?_ sp hq
      · intro l' k' e1 e2
        have := hlo l' e1
        have := hhi k' e2
        omega
      · exact Bnd.has_of (fun l' e1 => by have := hlo l' e1; show l' ≤ x2; omega) (fun k' e2 => by have := hhi k' e2; show x2 ≤ k'; omega)
      · exact Bnd.has_of (fun l' e1 => by have := hlo l' e1; omega) (fun k' e2 => by have := hhi k' e2; omega)
    refine ite2 (fun z => ?_) fun z => ?_
    · exact ⟨_, rfl, fin ta ⟨x1, x2, x3⟩ ta9 sp⟩
    · exact fin tb ⟨x1 + (dx - 4), x2 + (dh - 4), x3 + x2 * (dx - 4) + ds - 12⟩ tb9 sq
end
end Hs
end

/-! HsD19 -/
section
set_option Elab.async false
set_option linter.all false
set_option maxRecDepth 100000
set_option maxHeartbeats 4000000
namespace Hs
open PySem PySem.Spec PyProof.Rows L2
local macro_rules | `(tactic| walk_at "ix") => `(tactic| refine ⟨_, _, _, _, rfl, rfl, SqT.of (by assumption), (by first | exact at0 | exact at1 | exact at2 | exact at3), ?_⟩)
local macro_rules | `(tactic| walk_at "fl") => `(tactic| refine ⟨_, _, _, _, _, rfl, (by assumption), (by first | exact Tx.c_Band (by assumption) | exact Tx.c_Extents (by assumption) | exact Tx.c_Walker (by assumption)), (by first
  | exact Tx.n_Band_low_end (by assumption) | exact Tx.n_Band_high_end (by assumption) | exact Tx.n_Extents_width (by assumption) | exact Tx.n_Extents_climb (by assumption) | exact Tx.n_Extents_depth (by assumption) | exact Tx.n_Extents_base (by assumption) | exact Tx.n_Extents_limit (by assumption)
  | exact Tx.n_Walker_limits (by assumption) | exact Tx.n_Walker_own_players (by assumption) | exact Tx.n_Walker_own_observer (by assumption) | exact Tx.n_Walker_is_observed (by assumption) | exact Tx.n_Walker_first_state (by assumption) | exact Tx.n_Walker_situation (by assumption) | exact Tx.n_Walker_own_actions (by assumption) | exact Tx.n_Walker_earlier (by assumption)), rfl, ?_⟩)
local macro_rules | `(tactic| walk_at "r1") => `(tactic| first | refine ⟨_, rfl, ?_⟩ | refine ⟨_, _, rfl, rfl, ?_⟩ | refine ⟨_, _, rfl, ?_⟩ | walk_at "ix" | walk_at "fl")
local macro_rules | `(tactic| walk_at "rd") => `(tactic| repeat walk_at "r1")
local macro_rules | `(tactic| walk_at "b") => `(tactic| first | (exact fun _ _ _ _ _ _ us hl => match us, hl with | [_], _ => rfl) | (exact fun _ _ _ _ _ _ us hl => match us, hl with | [_, _], _ => rfl) | (exact fun _ _ _ _ _ _ us hl => match us, hl with | [_, _, _], _ => rfl) | (exact fun _ _ _ _ _ _ us hl => match us, hl with | [_, _, _, _], _ => rfl))
section
variable {P : Program} {w : World} {K : PySem.W.Frag} {mg : Str → Option Value} {base : Heap} (T : Tx K mg)
set_option exponentiation.threshold 2000
/-! ### the law's names -/
theorem abc_at : ∀ j : Nat, j < 26 → abc.cps.toList[j]? = some (97 + j) := by
  have h : (List.range 26).all (fun j => decide (abc.cps.toList[j]? = some (97 + j))) = true := by decide +kernel
  intro j hj
  have := List.all_eq_true.mp h j (List.mem_range.mpr hj)
  exact of_decide_eq_true this
theorem abc_len : abc.length ≤ sizeLine := by
  have : abc.length = 26 := by decide +kernel
  rw [this, sizeLine_eq]; omega
theorem abc_mem {j : Nat} (hj : j < 26) : 97 + j ∈ abc.cps.toList := List.mem_of_getElem? (abc_at j hj)
/-- the k-th name -/
def nameK (tl : List Nat) (a b k : Nat) : Str := SX.S (tl.take a ++ [97 + (b + 5 * k) % 26] ++ tl.drop a)
theorem nameK_ok {n t a b k : Nat} (hn : n ≤ 7) (ht : t < 26) : NameOk (nameK (List.replicate n (97 + t)) a b k) := by
  have hl : (List.replicate n (97 + t)).length = n := List.length_replicate
  have e : ((List.replicate n (97 + t)).take a ++ [97 + (b + 5 * k) % 26] ++ (List.replicate n (97 + t)).drop a).length = n + 1 := by
    rw [List.length_append, List.length_append, List.length_take, List.length_drop, hl, List.length_singleton]; omega
  unfold nameK
  refine ⟨?_, ?_, fun c hc => ?_⟩
  · rw [SX.S_len, e]; omega
  · rw [SX.S_len, e]; omega
  · have hc' : c ∈ (List.replicate n (97 + t)).take a ++ [97 + (b + 5 * k) % 26] ++ (List.replicate n (97 + t)).drop a := hc
    rw [List.mem_append, List.mem_append, List.mem_singleton] at hc'
    rcases hc' with (h | h) | h
    · rw [(List.mem_replicate.mp (List.mem_of_mem_take h)).2]; exact abc_mem ht
    · rw [h]; exact abc_mem (Nat.mod_lt _ (by decide))
    · rw [(List.mem_replicate.mp (List.mem_of_mem_drop h)).2]; exact abc_mem ht
theorem nameK_inj {tl : List Nat} {a b i k : Nat} (h : nameK tl a b i = nameK tl a b k) : (b + 5 * i) % 26 = (b + 5 * k) % 26 := by
  have h' := SX.S_inj h
  rw [List.append_assoc, List.append_assoc] at h'
  have h2 := List.append_cancel_left h'
  have h3 : 97 + (b + 5 * i) % 26 = 97 + (b + 5 * k) % 26 := by
    injection h2
  omega
theorem names_ok {n t a b m : Nat} (hn : n ≤ 7) (ht : t < 26) (h1 : 1 ≤ m) (h3 : m ≤ 3) : NamesOk ((List.range m).map (nameK (List.replicate n (97 + t)) a b)) := by
  refine ⟨by rw [List.length_map, List.length_range]; exact h1, by rw [List.length_map, List.length_range]; omega, ?_, fun z hz => ?_⟩
  · rw [List.nodup_iff_pairwise_ne, List.pairwise_map]
    refine List.Pairwise.imp_of_mem (fun {x y} hx hy hne e => ?_) (List.nodup_iff_pairwise_ne.mp List.nodup_range)
    have := nameK_inj e
    rw [List.mem_range] at hx hy
    omega
  · obtain ⟨k, _, rfl⟩ := List.mem_map.mp hz
    exact nameK_ok hn ht
def spNames : Sp := fun vs H Q _ => ∃ (l : Addr), vs = [.ref l, .int 3] ∧ Pool H l ∧ ∀ (H' : Hp) (v : V) (ns : List Str), SameX l H H' → Pool H' l → IsNames H' v ns → NamesOk ns → ns.length ≤ 3 → Q v H'
theorem rep_flat (c : Nat) : ∀ n : Nat, (List.replicate n [c]).flatten = List.replicate n c
  | 0 => rfl
  | n + 1 => by rw [List.replicate_succ, List.flatten_cons, rep_flat c n, List.replicate_succ] <;> rfl
theorem at4N {r : Int} (h0 : 0 ≤ r) (h1 : r < 4) : ∃ n : Nat, atI [V.int 0, V.int 1, V.int 3, V.int 7] r = some (V.int (n : Int)) ∧ n ≤ 7 := by
  have hc : r = 0 ∨ r = 1 ∨ r = 2 ∨ r = 3 := by omega
  rcases hc with rfl | rfl | rfl | rfl
  · exact ⟨0, at0, by decide⟩
  · exact ⟨1, at1, by decide⟩
  · exact ⟨3, at2, by decide⟩
  · exact ⟨7, at3, by decide⟩
theorem scLawNames : FnScope ["_law_pool_here", "_law_most", "_law_letters", "_law_begin", "_law_tail", "_law_at", "_law_count", "_law_k"] ["_law_pool_here", "_law_most"] (defScope sLawNames) := ⟨rfl, rfl, rfl, by decide +kernel, rfl, by decide +kernel, by decide +kernel⟩
include T in
theorem ok_law_names : Cal P w K mg base 2 "_law_names" spNames [] := by
  obtain ⟨fd, F⟩ := T.d_LawNames
  refine ⟨_, fd, ["_law_pool_here", "_law_most"], [], F.ok scLawNames (fun vs H Q E h => ?_) (fun cdv A outer s H vs Q E hr h => ⟨_, PSs.nox (pss_cons (ps_set (i := 2) scLawNames.nd rfl (by first | exact Or.inl rfl | exact Or.inr rfl) pe_str)
      (pss_cons (ps_set (i := 3) scLawNames.nd rfl (by first | exact Or.inl rfl | exact Or.inr rfl) (pe_c (ok_law_take T) hr (by decide) (pa_cons (pv 0) (pa_cons pe_int pa_nil))))
      (pss_cons (ps_set (i := 4) scLawNames.nd rfl (by first | exact Or.inl rfl | exact Or.inr rfl) (pe_op op_mulS (pe_ix ix_str (pv 2) (pe_c (ok_law_take T) hr (by decide) (pa_cons (pv 0) (pa_cons pe_int pa_nil))) (fun _ _ => rfl)) (pe_ix ix_list (pe_lst (pa_cons pe_int (pa_cons pe_int (pa_cons pe_int (pa_cons pe_int pa_nil))))) (pe_c (ok_law_take T) hr (by decide) (pa_cons (pv 0) (pa_cons pe_int pa_nil))) (fun _ _ => rfl))))
      (pss_cons (ps_set (i := 5) scLawNames.nd rfl (by first | exact Or.inl rfl | exact Or.inr rfl) (pe_c (ok_law_take T) hr (by decide) (pa_cons (pv 0) (pa_cons (pe_op op_add (pe_callB call_len_str rfl T.f_len boot_len (pa_cons (pv 4) pa_nil)) pe_int) pa_nil))))
      (pss_cons (ps_set (i := 6) scLawNames.nd rfl (by first | exact Or.inl rfl | exact Or.inr rfl) (pe_op op_add pe_int (pe_c (ok_law_take T) hr (by decide) (pa_cons (pv 0) (pa_cons (pv 1) pa_nil)))))
      (pss_one (ps_ret (pe_callTy call_tuple_of rfl T.f_tuple boot_tuple (pa_cons (pe_lc (own := [("_law_k", 7)]) (g := gName 7) (tt := tYes) rfl scLawNames.nd (pi_range1 rfl T.f_range (pa_cons (pv 6) pa_nil)) (blkOk_by (own := [("_law_k", 7)]) (N := ["_law_pool_here", "_law_most", "_law_letters", "_law_begin", "_law_tail", "_law_at", "_law_count", "_law_k"]) (sc := defScope sLawNames) (by decide +kernel)) (fun _ _ _ _ _ => pg_name (i := 7) scLawNames.nd rfl (by first | exact Or.inl rfl | exact Or.inr rfl)) (fun _ _ _ _ _ => pts_nil) (fun _ _ _ _ _ => pe_op op_add_str (pe_op op_add_str (pe_slice C8.sl_txt (pv 4) po_none (po_some (pv 5))) (pe_ix ix_str (pv 2) (pe_op op_mod (pe_op op_add (pv 3) (pe_op op_mul pe_int (pv 7))) pe_int) (fun _ _ => rfl))) (pe_slice C8.sl_txt (pv 4) (po_some (pv 5)) po_none))) pa_nil))))))))), ?_⟩),
    T.g_law_names, F.kp, F.bindsN (by walk_at "b"), .nil⟩
  · obtain ⟨a, rfl, _⟩ := h; rfl
  · obtain ⟨l, rfl, hp, h⟩ := h
    iterate 1 walk_at "r1"
    refine ⟨l, 26, rfl, hp, by decide, by decide, fun H1 b s1 p1 b0 b1 => ?_⟩
    iterate 2 walk_at "r1"
    refine ⟨l, 26, rfl, p1, by decide, by decide, fun H2 t s2 p2 t0 t1 => ?_⟩
    obtain ⟨b', rfl⟩ := Int.eq_ofNat_of_zero_le b0
    obtain ⟨t', rfl⟩ := Int.eq_ofNat_of_zero_le t0
    have ht' : t' < 26 := by omega
    refine ⟨abc, _, _, rfl, rfl, abc_len, atI_nat (abc_at t' ht'), ?_⟩
    refine ⟨l4, fun q hq => ?_⟩
    have hlq : l ≠ q := by obtain ⟨_, _, e, _⟩ := p2; exact ne_none e hq
    iterate 1 walk_at "r1"
    refine ⟨l, 4, rfl, p2.mono (same_upd hq), by decide, by decide, fun H3 x s3 p3 x0 x1 => ?_⟩
    obtain ⟨n, hn, hn7⟩ := at4N x0 x1
    refine ⟨_, _, _, _, rfl, rfl, SqL.of (s3 _ _ hlq.symm upd_same), hn, ?_⟩
    refine ⟨_, n, rfl, rfl, rfl, by omega, fun r hr' => ?_⟩
    have er : r = SX.S (List.replicate n (97 + t')) := by
      rw [← SX.S_tl r, hr']
      exact congrArg SX.S (rep_flat (97 + t') n)
    subst er
    have s13 := ((s1.trans s2).trans (SameX.of (same_upd hq))).trans s3
    have hlen : (SX.S (List.replicate n (97 + t'))).length = n := by rw [SX.S_len, List.length_replicate]
    have hsz : (SX.S (List.replicate n (97 + t'))).length ≤ sizeLine := by rw [hlen, sizeLine_eq]; omega
    iterate 2 walk_at "r1"
    refine ⟨_, rfl, hsz, ?_⟩
    iterate 1 walk_at "r1"
    refine ⟨l, _, rfl, p3, by rw [hlen]; omega, by rw [hlen]; omega, fun H4 a s4 p4 a0 a1 => ?_⟩
    obtain ⟨a', rfl⟩ := Int.eq_ofNat_of_zero_le a0
    iterate 2 walk_at "r1"
    refine ⟨l, 3, rfl, p4, by decide, by decide, fun H5 m s5 p5 m0 m1 => ?_⟩
    obtain ⟨m', rfl⟩ := Int.eq_ofNat_of_zero_le m0
    have s15 := (s13.trans s4).trans s5
    iterate 2 walk_at "r1"
    refine ⟨_, rfl, by omega, by omega, fun D hD => ?_⟩
    have hlD : l ≠ D := by obtain ⟨_, _, e, _⟩ := p5; exact ne_none e hD
    have em : (1 + (m' : Int)).toNat = 1 + m' := by omega
    refine lc_range (lo := 0) (n := (1 + (m' : Int)).toNat) (fun i H' => Same H5 H' ∧ H' D = some (.lst (((List.range i).map (nameK (List.replicate n (97 + t')) a' b')).map V.str))) ⟨same_upd hD, upd_same⟩ (fun i H' hi q => ?_) fun H' q => ?_
    · obtain ⟨sq, hq2⟩ := q
      have hi3 : i < 3 := by omega
      refine ⟨rfl, ?_⟩
      have hat : atI abc.cps.toList (((b' : Int) + 5 * (0 + (i : Int))) % 26) = some (97 + (b' + 5 * i) % 26) := by
        have e : ((b' : Int) + 5 * (0 + (i : Int))) % 26 = (((b' + 5 * i) % 26 : Nat) : Int) := by omega
        rw [e]
        exact atI_nat (abc_at _ (Nat.mod_lt _ (by decide)))
      refine ⟨_, rfl, _, rfl, _, rfl, _, rfl, hsz, ?_⟩
      refine ⟨_, rfl, _, rfl, _, rfl, _, _, rfl, rfl, .inl ⟨by decide, by decide⟩, _, _, rfl, rfl, _, _, rfl, rfl, by show (0 : Int) < 26; decide, ?_⟩
      refine ⟨abc, _, _, rfl, rfl, abc_len, hat, ?_⟩
      have hl1 : (List.replicate n (97 + t')).length = n := List.length_replicate
      have e1 : Txt.slice (SX.S (List.replicate n (97 + t'))) none (some (a' : Int)) = SX.S ((List.replicate n (97 + t')).take a') := by
        rw [SX.slice_to (Int.natCast_nonneg _), Int.toNat_natCast]
      have e2 : Txt.slice (SX.S (List.replicate n (97 + t'))) (some (a' : Int)) none = SX.S ((List.replicate n (97 + t')).drop a') := by
        rw [SX.slice_from (Int.natCast_nonneg _), Int.toNat_natCast]
      refine ⟨_, _, rfl, rfl, ?_, ?_⟩
      · rw [e1, SX.S_len, List.length_take, hl1, sizeLine_eq]
        show min a' n + 1 ≤ _
        omega
      refine ⟨_, rfl, _, rfl, _, rfl, _, rfl, hsz, ?_⟩
      have e3 : Txt.slice (SX.S (List.replicate n (97 + t'))) none (some (a' : Int)) ++ (⟨#[97 + (b' + 5 * i) % 26]⟩ : Str) = SX.S ((List.replicate n (97 + t')).take a' ++ [97 + (b' + 5 * i) % 26]) := by
        rw [e1]
        exact SX.S_cat _ _
      refine ⟨_, _, rfl, rfl, ?_, ?_⟩
      · rw [e3, e2, SX.S_len, SX.S_len, List.length_append, List.length_take, List.length_drop, hl1, List.length_singleton, sizeLine_eq]
        omega
      rw [e3, e2, SX.S_cat]
      refine ⟨_, hq2, ?_, same_at hD sq, ?_⟩
      · rw [List.length_map, List.length_map, List.length_range, sizeLine_eq]; omega
      · rw [upd_same, List.range_succ, List.map_append, List.map_append] <;> rfl
    · obtain ⟨sq, hq2⟩ := q
      refine ⟨_, _, rfl, .inl ⟨SqL.of hq2, fun v hv => ?_⟩⟩
      rw [em]
      exact h _ _ _ ((s15.trans (SameX.of sq)).trans (SameX.of (same_upd hv))) ((p5.mono sq).mono (same_upd hv)) ⟨v, rfl, upd_same⟩ (names_ok hn7 ht' (by omega) (by omega)) (by rw [List.length_map, List.length_range]; omega)
end
end Hs
end

/-! HsD20 -/
section
set_option Elab.async false
set_option linter.all false
set_option maxRecDepth 100000
set_option maxHeartbeats 4000000
namespace Hs
open PySem PySem.Spec PyProof.Rows L2
local macro_rules | `(tactic| walk_at "ix") => `(tactic| refine ⟨_, _, _, _, rfl, rfl, SqT.of (by assumption), (by first | exact at0 | exact at1 | exact at2 | exact at3), ?_⟩)
local macro_rules | `(tactic| walk_at "fl") => `(tactic| refine ⟨_, _, _, _, _, rfl, (by assumption), (by first | exact Tx.c_Band (by assumption) | exact Tx.c_Extents (by assumption) | exact Tx.c_Walker (by assumption)), (by first
  | exact Tx.n_Band_low_end (by assumption) | exact Tx.n_Band_high_end (by assumption) | exact Tx.n_Extents_width (by assumption) | exact Tx.n_Extents_climb (by assumption) | exact Tx.n_Extents_depth (by assumption) | exact Tx.n_Extents_base (by assumption) | exact Tx.n_Extents_limit (by assumption)
  | exact Tx.n_Walker_limits (by assumption) | exact Tx.n_Walker_own_players (by assumption) | exact Tx.n_Walker_own_observer (by assumption) | exact Tx.n_Walker_is_observed (by assumption) | exact Tx.n_Walker_first_state (by assumption) | exact Tx.n_Walker_situation (by assumption) | exact Tx.n_Walker_own_actions (by assumption) | exact Tx.n_Walker_earlier (by assumption)), rfl, ?_⟩)
local macro_rules | `(tactic| walk_at "r1") => `(tactic| first | refine ⟨_, rfl, ?_⟩ | refine ⟨_, _, rfl, rfl, ?_⟩ | refine ⟨_, _, rfl, ?_⟩ | walk_at "ix" | walk_at "fl")
local macro_rules | `(tactic| walk_at "rd") => `(tactic| repeat walk_at "r1")
local macro_rules | `(tactic| walk_at "b") => `(tactic| first | (exact fun _ _ _ _ _ _ us hl => match us, hl with | [_], _ => rfl) | (exact fun _ _ _ _ _ _ us hl => match us, hl with | [_, _], _ => rfl) | (exact fun _ _ _ _ _ _ us hl => match us, hl with | [_, _, _], _ => rfl) | (exact fun _ _ _ _ _ _ us hl => match us, hl with | [_, _, _, _], _ => rfl))
section
variable {P : Program} {w : World} {K : PySem.W.Frag} {mg : Str → Option Value} {base : Heap} (T : Tx K mg)
set_option exponentiation.threshold 2000
/-! ### the law's act -/
theorem IsSit.monoP {H H' : Hp} {v : V} {x : Sit} {l : Addr} (h : IsSit H v x) (s : SameX l H H') (hl : Pool H l) : IsSit H' v x := let ⟨a, v1, v2, e, q, p1, p2⟩ := h; ⟨a, v1, v2, e, s.tup hl q, p1.monoP s hl, p2.monoP s hl⟩
theorem IsNames.monoP {H H' : Hp} {v : V} {ns : List Str} {l : Addr} (h : IsNames H v ns) (s : SameX l H H') (hl : Pool H l) : IsNames H' v ns := let ⟨a, e, q⟩ := h; ⟨a, e, s.tup hl q⟩
/-- what the law may ask -/
def actG (s : Sit) : Act → Prop
  | .adv _ _ n => 1 ≤ n ∧ n ≤ 4
  | .goal g => ∃ dx dh e : Int, -2 ≤ dx ∧ dx ≤ 2 ∧ -2 ≤ dh ∧ dh ≤ 2 ∧ 0 ≤ e ∧ e < 9 ∧ g = ⟨s.st.x + dx, s.st.h + dh, s.st.s + s.st.h * dx + e⟩
  | .undo m => 0 ≤ m
def spAct : Sp := fun vs H Q _ => ∃ (l : Addr) (nv sv : V) (c : Nat) (ns : List Str) (x : Sit), vs = [.ref l, nv, sv, .int (c : Int)] ∧ Pool H l ∧ IsNames H nv ns ∧ 1 ≤ ns.length ∧ IsSit H sv x ∧ 0 ≤ x.turn ∧ c ≤ 1000 ∧
  ∀ (H' : Hp) (v : V) (a : Act), SameX l H H' → Pool H' l → IsAct H' v a → actG x a → Q v H'
theorem ewud {r : Int} (h0 : 0 ≤ r) (h1 : r < 4) : ∃ (c : Nat) (d : Dir), atI ("EWUD" : Str).cps.toList r = some c ∧ (⟨#[c]⟩ : Str) = d.t := by
  have hc : r = 0 ∨ r = 1 ∨ r = 2 ∨ r = 3 := by omega
  rcases hc with rfl | rfl | rfl | rfl
  · exact ⟨69, .E, by decide +kernel, by decide +kernel⟩
  · exact ⟨87, .W, by decide +kernel, by decide +kernel⟩
  · exact ⟨85, .U, by decide +kernel, by decide +kernel⟩
  · exact ⟨68, .D, by decide +kernel, by decide +kernel⟩
theorem ewud_len : ("EWUD" : Str).length ≤ sizeLine := by
  have : ("EWUD" : Str).length = 4 := by decide +kernel
  rw [this, sizeLine_eq]; omega
theorem scLawAct : FnScope ["_law_pool_here", "_law_names_here", "_law_now", "_law_count", "_law_way", "_law_x", "_law_h", "_law_total", "_law_dx", "_law_name"] ["_law_pool_here", "_law_names_here", "_law_now", "_law_count"] (defScope sLawAct) := ⟨rfl, rfl, rfl, by decide +kernel, rfl, by decide +kernel, by decide +kernel⟩
include T in
theorem ok_law_act : Cal P w K mg base 2 "_law_act" spAct [] := by
  obtain ⟨fd, F⟩ := T.d_LawAct
  refine ⟨_, fd, ["_law_pool_here", "_law_names_here", "_law_now", "_law_count"], [], F.ok scLawAct (fun vs H Q E h => ?_) (fun cdv A outer s H vs Q E hr h => ⟨_, PSs.nox (pss_cons (ps_set (i := 4) scLawAct.nd rfl (by first | exact Or.inl rfl | exact Or.inr rfl) (pe_c (ok_law_take T) hr (by decide) (pa_cons (pv 0) (pa_cons pe_int pa_nil))))
      (pss_cons (ps_if (pt_cmp (pc_eqI (pv 4) pe_int)) (pss_cons (ps_asg (pe_ix ix_tup (pv 2) pe_int (fun _ _ => rfl)) (pg_tup rfl (pgs_cons (pg_name (i := 5) scLawAct.nd rfl (by first | exact Or.inl rfl | exact Or.inr rfl)) (pgs_cons (pg_name (i := 6) scLawAct.nd rfl (by first | exact Or.inl rfl | exact Or.inr rfl)) (pgs_cons (pg_name (i := 7) scLawAct.nd rfl (by first | exact Or.inl rfl | exact Or.inr rfl)) pgs_nil)))))
      (pss_cons (ps_set (i := 8) scLawAct.nd rfl (by first | exact Or.inl rfl | exact Or.inr rfl) (pe_op op_sub (pe_c (ok_law_take T) hr (by decide) (pa_cons (pv 0) (pa_cons pe_int pa_nil))) pe_int))
      (pss_one (ps_ret (pe_tup (pa_cons pe_str (pa_cons (pe_tup (pa_cons (pe_op op_add (pv 5) (pv 8)) (pa_cons (pe_op op_sub (pe_op op_add (pv 6) (pe_c (ok_law_take T) hr (by decide) (pa_cons (pv 0) (pa_cons pe_int pa_nil)))) pe_int) (pa_cons (pe_op op_add (pe_op op_add (pv 7) (pe_op op_mul (pv 6) (pv 8))) (pe_c (ok_law_take T) hr (by decide) (pa_cons (pv 0) (pa_cons pe_int pa_nil)))) pa_nil)))) pa_nil))))))) pss_nil)
      (pss_cons (ps_if (pt_cmp (pc_eqI (pv 4) pe_int)) (pss_one (ps_ret (pe_tup (pa_cons pe_str (pa_cons (pe_c (ok_law_take T) hr (by decide) (pa_cons (pv 0) (pa_cons (pe_op op_add (pv 3) pe_int) pa_nil))) pa_nil))))) pss_nil)
      (pss_cons (ps_set (i := 9) scLawAct.nd rfl (by first | exact Or.inl rfl | exact Or.inr rfl) (pe_ix ix_tup (pv 1) (pe_op op_mod (pe_op op_add (pe_ix ix_tup (pv 2) pe_int (fun _ _ => rfl)) (pe_callTy call_int1 rfl T.f_int boot_int (pa_cons (pe_cmp (pc_eqI (pe_c (ok_law_take T) hr (by decide) (pa_cons (pv 0) (pa_cons pe_int pa_nil))) pe_int)) pa_nil))) (pe_callB call_len_seq rfl T.f_len boot_len (pa_cons (pv 1) pa_nil))) (fun _ _ => rfl)))
      (pss_one (ps_ret (pe_tup (pa_cons pe_str (pa_cons (pv 9) (pa_cons (pe_ix ix_str pe_str (pe_c (ok_law_take T) hr (by decide) (pa_cons (pv 0) (pa_cons pe_int pa_nil))) (fun _ _ => rfl)) (pa_cons (pe_op op_add pe_int (pe_c (ok_law_take T) hr (by decide) (pa_cons (pv 0) (pa_cons pe_int pa_nil)))) pa_nil))))))))))), ?_⟩),
    T.g_law_act, F.kp, F.bindsN (by walk_at "b"), .nil⟩
  · obtain ⟨l, _, _, _, _, _, rfl, _⟩ := h; rfl
  · obtain ⟨l, nv, sv, c, ns, x, rfl, hp, hn, hn1, hs, ht0, hc, h⟩ := h
    iterate 1 walk_at "r1"
    refine ⟨l, 6, rfl, hp, by decide, by decide, fun H1 way s1 p1 _ _ => ?_⟩
    have hn1' := hn.monoP s1 hp
    obtain ⟨sa, v1, v2, rfl, hsa, q1, q2⟩ := hs.monoP s1 hp
    obtain ⟨pa, rfl, hpa⟩ := q1
    walk_at "rd"
    refine ite2 (fun z => ?_) fun z => ?_
    · walk_at "rd"
      refine ⟨_, _, rfl, SqT.of hpa, rfl, _, _, rfl, _, _, rfl, _, _, rfl, rfl, ?_⟩
      iterate 1 walk_at "r1"
      refine ⟨l, 5, rfl, p1, by decide, by decide, fun H2 dx s2 p2 a0 a1 => ?_⟩
      iterate 6 walk_at "r1"
      refine ⟨l, 5, rfl, p2, by decide, by decide, fun H3 dh s3 p3 b0 b1 => ?_⟩
      walk_at "rd"
      refine ⟨.inr ⟨by omega, by omega⟩, ?_⟩
      iterate 2 walk_at "r1"
      refine ⟨l, 9, rfl, p3, by decide, by decide, fun H4 e s4 p4 c0 c1 => ?_⟩
      walk_at "rd"
      refine ⟨l3, fun ta hta => ?_⟩
      refine ⟨l2, fun tb htb => ?_⟩
      have nab : ta ≠ tb := ne_none upd_same htb
      have p6 := (p4.mono (same_upd (o := .tup [.int (x.st.x + (dx - 2)), .int (x.st.h + dh - 2), .int (x.st.s + x.st.h * (dx - 2) + e)]) hta)).mono (same_upd (o := .tup [.str "goal", .ref ta]) htb)
      have s6 := (((s1.trans s2).trans s3).trans s4).trans ((SameX.of (l := l) (same_upd (o := .tup [.int (x.st.x + (dx - 2)), .int (x.st.h + dh - 2), .int (x.st.s + x.st.h * (dx - 2) + e)]) hta)).trans (SameX.of (same_upd (o := .tup [.str "goal", .ref ta]) htb)))
      refine h _ _ (.goal ⟨x.st.x + (dx - 2), x.st.h + dh - 2, x.st.s + x.st.h * (dx - 2) + e⟩) s6 p6 ⟨tb, .ref ta, rfl, upd_same, ⟨ta, rfl, by rw [upd_ne nab, upd_same]⟩⟩ ⟨dx - 2, dh - 2, e, by omega, by omega, by omega, by omega, c0, c1, ?_⟩
      have e1 : x.st.h + dh - 2 = x.st.h + (dh - 2) := by omega
      rw [e1]
    · walk_at "rd"
      refine ite2 (fun z => ?_) fun z => ?_
      · walk_at "rd"
        refine ⟨p1, by omega, by omega, fun H2 m s2 p2 m0 m1 => ?_⟩
        refine ⟨l2, fun tb htb => ?_⟩
        exact h _ _ (.undo m) ((s1.trans s2).trans (SameX.of (same_upd htb))) (p2.mono (same_upd htb)) ⟨tb, rfl, upd_same⟩ m0
      · obtain ⟨na, rfl, hna⟩ := hn1'
        iterate 4 walk_at "r1"
        refine ⟨l, 6, rfl, p1, by decide, by decide, fun H2 r s2 p2 m0 m1 => ?_⟩
        have hna2 := s2.tup p1 hna
        walk_at "rd"
        refine .inr ⟨_, rfl, ?_⟩
        walk_at "rd"
        refine ⟨_, _, rfl, .inr (SqT.of hna2), ?_⟩
        walk_at "rd"
        refine ⟨by rw [List.length_map]; omega, ?_⟩
        have hat : ∀ g : Int, 0 ≤ g → ∃ nm : Str, atI (ns.map V.str) (g % ((ns.map V.str).length : Nat)) = some (.str nm) := fun g hg => by
          have hl : (g % ((ns.map V.str).length : Nat)).toNat < ns.length := by
            rw [List.length_map]
            have h1 := Int.emod_nonneg g (show ((ns.length : Nat) : Int) ≠ 0 by omega)
            have h2 := Int.emod_lt_of_pos g (show (0 : Int) < (ns.length : Nat) by omega)
            omega
          have hz : 0 ≤ g % ((ns.map V.str).length : Nat) := Int.emod_nonneg _ (by rw [List.length_map]; omega)
          refine ⟨ns[(g % ((ns.map V.str).length : Nat)).toNat], ?_⟩
          have e := atI_nat (xs := ns.map V.str) (j := (g % ((ns.map V.str).length : Nat)).toNat) (v := .str ns[(g % ((ns.map V.str).length : Nat)).toNat]) (by rw [List.getElem?_map, List.getElem?_eq_getElem hl] <;> rfl)
          rw [Int.toNat_of_nonneg hz] at e
          exact e
        obtain ⟨nm, hnm⟩ := hat (x.turn + if decide (r = 0) = true then 1 else 0) (by split <;> omega)
        refine ⟨_, _, _, _, rfl, rfl, SqT.of hna2, hnm, ?_⟩
        iterate 2 walk_at "r1"
        refine ⟨l, 4, rfl, p2, by decide, by decide, fun H3 y s3 p3 y0 y1 => ?_⟩
        obtain ⟨cc, d, hcc, hd⟩ := ewud y0 y1
        refine ⟨_, _, cc, rfl, rfl, ewud_len, hcc, ?_⟩
        iterate 1 walk_at "r1"
        refine ⟨l, 4, rfl, p3, by decide, by decide, fun H4 n s4 p4 n0 n1 => ?_⟩
        walk_at "rd"
        refine ⟨l4, fun tb htb => ?_⟩
        refine h _ _ (.adv nm d (1 + n)) ((((s1.trans s2).trans s3).trans s4).trans (SameX.of (same_upd htb))) (p4.mono (same_upd htb)) ⟨tb, rfl, ?_⟩ ⟨by omega, by omega⟩
        rw [upd_same, hd]
end
end Hs
end

/-! HsD21 -/
section
set_option Elab.async false
set_option linter.all false
set_option maxRecDepth 100000
set_option maxHeartbeats 4000000
namespace Hs
open PySem PySem.Spec PyProof.Rows L2
local macro_rules | `(tactic| walk_at "ix") => `(tactic| refine ⟨_, _, _, _, rfl, rfl, SqT.of (by assumption), (by first | exact at0 | exact at1 | exact at2 | exact at3), ?_⟩)
local macro_rules | `(tactic| walk_at "fl") => `(tactic| refine ⟨_, _, _, _, _, rfl, (by assumption), (by first | exact Tx.c_Band (by assumption) | exact Tx.c_Extents (by assumption) | exact Tx.c_Walker (by assumption)), (by first
  | exact Tx.n_Band_low_end (by assumption) | exact Tx.n_Band_high_end (by assumption) | exact Tx.n_Extents_width (by assumption) | exact Tx.n_Extents_climb (by assumption) | exact Tx.n_Extents_depth (by assumption) | exact Tx.n_Extents_base (by assumption) | exact Tx.n_Extents_limit (by assumption)
  | exact Tx.n_Walker_limits (by assumption) | exact Tx.n_Walker_own_players (by assumption) | exact Tx.n_Walker_own_observer (by assumption) | exact Tx.n_Walker_is_observed (by assumption) | exact Tx.n_Walker_first_state (by assumption) | exact Tx.n_Walker_situation (by assumption) | exact Tx.n_Walker_own_actions (by assumption) | exact Tx.n_Walker_earlier (by assumption)), rfl, ?_⟩)
local macro_rules | `(tactic| walk_at "r1") => `(tactic| first | refine ⟨_, rfl, ?_⟩ | refine ⟨_, _, rfl, rfl, ?_⟩ | refine ⟨_, _, rfl, ?_⟩ | walk_at "ix" | walk_at "fl")
local macro_rules | `(tactic| walk_at "rd") => `(tactic| repeat walk_at "r1")
local macro_rules | `(tactic| walk_at "b") => `(tactic| first | (exact fun _ _ _ _ _ _ us hl => match us, hl with | [_], _ => rfl) | (exact fun _ _ _ _ _ _ us hl => match us, hl with | [_, _], _ => rfl) | (exact fun _ _ _ _ _ _ us hl => match us, hl with | [_, _, _], _ => rfl) | (exact fun _ _ _ _ _ _ us hl => match us, hl with | [_, _, _, _], _ => rfl))
section
variable {P : Program} {w : World} {K : PySem.W.Frag} {mg : Str → Option Value} {base : Heap} (T : Tx K mg)
set_option exponentiation.threshold 2000
/-! ### the law's next history -/
def IsItem (H : Hp) (v : V) (i : Option Act × Sit) : Prop := ∃ t v1 v2, v = .ref t ∧ H t = some (.tup [v1, v2]) ∧ IsSit H v1 i.2 ∧ (match i.1 with | none => v2 = .non | some x => IsAct H v2 x)
theorem IsItem.mono {H H' : Hp} {v : V} {i : Option Act × Sit} (h : IsItem H v i) (s : Same H H') : IsItem H' v i := by
  obtain ⟨t, v1, v2, e, q, h1, h2⟩ := h
  refine ⟨t, v1, v2, e, s _ _ q, h1.mono s, ?_⟩
  obtain ⟨o, x⟩ := i
  cases o with
  | none => exact h2
  | some a => exact IsAct.mono h2 s
theorem fresh_back {H H' : Hp} {p : Addr} (s : Same H H') (h : H' p = none) : H p = none := by
  cases e : H p with
  | none => rfl
  | some o => rw [s _ _ e] at h; cases h
def itemsOf (s0 : Sit) (hist : List (Act × Sit)) : List (Option Act × Sit) := (none, s0) :: hist.map fun p => (some p.1, p.2)
def IsPast (H : Hp) (a : Addr) (W : Wk) : Prop := ∃ xs, H a = some (.lst xs) ∧ All2 (IsItem H) xs (itemsOf W.s0 W.hist)
theorem IsPast.mono {H H' : Hp} {a : Addr} {W : Wk} (h : IsPast H a W) (s : Same H H') : IsPast H' a W := let ⟨xs, e, q⟩ := h; ⟨xs, s _ _ e, q.imp fun _ _ r => r.mono s⟩
theorem items_len (s0 : Sit) (hist : List (Act × Sit)) : (itemsOf s0 hist).length = hist.length + 1 := by unfold itemsOf; rw [List.length_cons, List.length_map]
/-- the last item tells the current situation -/
theorem items_last (W : Wk) : ∃ L o, itemsOf W.s0 W.hist = L ++ [(o, W.cur)] := by
  unfold itemsOf Wk.cur
  rcases List.eq_nil_or_concat W.hist with e | ⟨L, x, e⟩
  · rw [e]; exact ⟨[], none, rfl⟩
  · rw [e, List.concat_eq_append, List.map_append, List.getLast?_concat]
    exact ⟨(none, W.s0) :: L.map fun p => (some p.1, p.2), some x.1, rfl⟩
theorem items_put (W : Wk) (x : Act) (s : Sit) : itemsOf (W.put x s).s0 (W.put x s).hist = itemsOf W.s0 W.hist ++ [(some x, s)] := by
  unfold Wk.put itemsOf
  rw [List.map_append] <;> rfl
theorem items_upto (W : Wk) (i : Nat) : itemsOf (W.upto i).s0 (W.upto i).hist = (itemsOf W.s0 W.hist).take (i + 1) := by
  unfold Wk.upto itemsOf
  rw [List.take_succ_cons, List.map_take]
def okx (W : Wk) (pl : Str) : Act → Prop
  | .adv nm d n => advOk W nm pl d n
  | .goal g => W.b.has g.h = true
  | .undo m => 1 ≤ m ∧ m ≤ (W.hist.length : Nat)
def Wk.next (W : Wk) : Act → Wk
  | .adv nm d n => W.put (.adv nm d n) (advSit W d n)
  | .goal g => W.put (.goal g) ⟨W.cur.st, g, W.cur.left, W.cur.turn⟩
  | .undo m => W.upto (W.hist.length - m.toNat)
def actB (W : Wk) : Act → Prop
  | .adv _ _ n => 1 ≤ n ∧ n ≤ 4
  | .goal _ => True
  | .undo m => 0 ≤ m
def spNext : Sp := fun vs H Q _ => ∃ (ev nv av : V) (pa : Addr) (W : Wk) (x : Act) (j : Nat) (pl : Str), vs = [ev, nv, .ref pa, av] ∧ IsRm H ev W.b.lo W.b.hi ∧ IsNames H nv W.ns ∧ IsPast H pa W ∧ IsAct H av x ∧ W.cur.turn = (j : Int) ∧ W.ns[j]? = some pl ∧ W.hist.length < 1000 ∧ actB W x ∧
  (okx W pl x → ∀ (H' : Hp) (p' : Addr), Same H H' → H p' = none → IsPast H' p' (W.next x) → Q (.ref p') H') ∧ (¬ okx W pl x → ∀ H', Same H H' → Q .non H')
theorem cut_to {xs : List V} {n : Nat} (h : n ≤ xs.length) : cutV xs none (some (n : Int)) = xs.take n := by
  unfold cutV
  rw [HT.sIx_nat]
  show (xs.drop 0).take (min n xs.length - 0) = _
  rw [List.drop_zero, Nat.sub_zero, Nat.min_eq_left h]
theorem scLawNext : FnScope ["_law_ends_here", "_law_names_here", "_law_past", "_law_act_here", "_law_state", "_law_aim", "_law_left", "_law_turn", "_law_along", "_law_rise", "_law_new"] ["_law_ends_here", "_law_names_here", "_law_past", "_law_act_here"] (defScope sLawNext) := ⟨rfl, rfl, rfl, by decide +kernel, rfl, by decide +kernel, by decide +kernel⟩
include T in
theorem ok_law_next : Cal P w K mg base 2 "_law_next" spNext [] := by
  obtain ⟨fd, F⟩ := T.d_LawNext
  refine ⟨_, fd, ["_law_ends_here", "_law_names_here", "_law_past", "_law_act_here"], [], F.ok scLawNext (fun vs H Q E h => ?_) (fun cdv A outer s H vs Q E hr h => ⟨_, PSs.nox (pss_cons (ps_asg (pe_ix ix_tup (pe_ix ix_list (pv 2) (pe_un un_neg pe_int) (fun _ _ => rfl)) pe_int (fun _ _ => rfl)) (pg_tup rfl (pgs_cons (pg_name (i := 4) scLawNext.nd rfl (by first | exact Or.inl rfl | exact Or.inr rfl)) (pgs_cons (pg_name (i := 5) scLawNext.nd rfl (by first | exact Or.inl rfl | exact Or.inr rfl)) (pgs_cons (pg_name (i := 6) scLawNext.nd rfl (by first | exact Or.inl rfl | exact Or.inr rfl)) (pgs_cons (pg_name (i := 7) scLawNext.nd rfl (by first | exact Or.inl rfl | exact Or.inr rfl)) pgs_nil))))))
      (pss_cons (ps_if (pt_cmpR op_eq (pe_ix ix_tup (pv 3) pe_int (fun _ _ => rfl)) pe_str (nomark _)) (pss_cons (ps_if (PW.pt (pw_or (pt_cmp (pc_lt (pe_ix ix_tup (pv 3) pe_int (fun _ _ => rfl)) pe_int)) (pw_or1 (pt_cmp (pc_gt (pe_ix ix_tup (pv 3) pe_int (fun _ _ => rfl)) (pe_op op_sub (pe_callB call_len_seq rfl T.f_len boot_len (pa_cons (pv 2) pa_nil)) pe_int)))))) (pss_one (ps_ret pe_non)) pss_nil)
      (pss_one (ps_ret (pe_slice sl_list (pv 2) po_none (po_some (pe_op op_sub (pe_callB call_len_seq rfl T.f_len boot_len (pa_cons (pv 2) pa_nil)) (pe_ix ix_tup (pv 3) pe_int (fun _ _ => rfl)))))))) pss_nil)
      (pss_cons (ps_if (pt_cmpR op_eq (pe_ix ix_tup (pv 3) pe_int (fun _ _ => rfl)) pe_str (nomark _)) (pss_cons (ps_if (pt_not (pt_val (pe_c (ok_law_inside T) hr (by decide) (pa_cons (pv 0) (pa_cons (pe_ix ix_tup (pe_ix ix_tup (pv 3) pe_int (fun _ _ => rfl)) pe_int (fun _ _ => rfl)) pa_nil))))) (pss_one (ps_ret pe_non)) pss_nil)
      (pss_one (ps_ret (pe_op op_cat (pv 2) (pe_lst (pa_cons (pe_tup (pa_cons (pe_tup (pa_cons (pv 4) (pa_cons (pe_ix ix_tup (pv 3) pe_int (fun _ _ => rfl)) (pa_cons (pv 6) (pa_cons (pv 7) pa_nil))))) (pa_cons (pv 3) pa_nil))) pa_nil)))))) pss_nil)
      (pss_cons (ps_set (i := 8) scLawNext.nd rfl (by first | exact Or.inl rfl | exact Or.inr rfl) (pe_op op_mul (pe_ix ix_tup (pv 3) pe_int (fun _ _ => rfl)) (pe_op op_sub (pe_callTy call_int1 rfl T.f_int boot_int (pa_cons (pe_cmpR op_eq (pe_ix ix_tup (pv 3) pe_int (fun _ _ => rfl)) pe_str (nomark _)) pa_nil)) (pe_callTy call_int1 rfl T.f_int boot_int (pa_cons (pe_cmpR op_eq (pe_ix ix_tup (pv 3) pe_int (fun _ _ => rfl)) pe_str (nomark _)) pa_nil)))))
      (pss_cons (ps_set (i := 9) scLawNext.nd rfl (by first | exact Or.inl rfl | exact Or.inr rfl) (pe_op op_mul (pe_ix ix_tup (pv 3) pe_int (fun _ _ => rfl)) (pe_op op_sub (pe_callTy call_int1 rfl T.f_int boot_int (pa_cons (pe_cmpR op_eq (pe_ix ix_tup (pv 3) pe_int (fun _ _ => rfl)) pe_str (nomark _)) pa_nil)) (pe_callTy call_int1 rfl T.f_int boot_int (pa_cons (pe_cmpR op_eq (pe_ix ix_tup (pv 3) pe_int (fun _ _ => rfl)) pe_str (nomark _)) pa_nil)))))
      (pss_cons (ps_if (PW.pt (pw_or (pt_cmpR op_ne (pe_ix ix_tup (pv 3) pe_int (fun _ _ => rfl)) (pe_ix ix_tup (pv 1) (pv 7) (fun _ _ => rfl)) (nomark _)) (pw_or (pt_not (pt_val (pe_c (ok_law_inside T) hr (by decide) (pa_cons (pv 0) (pa_cons (pe_op op_add (pe_ix ix_tup (pv 4) pe_int (fun _ _ => rfl)) (pv 9)) pa_nil))))) (pw_or1 (pt_cmp (pc_gt (pe_ix ix_tup (pv 3) pe_int (fun _ _ => rfl)) (pv 6))))))) (pss_one (ps_ret pe_non)) pss_nil)
      (pss_cons (ps_set (i := 10) scLawNext.nd rfl (by first | exact Or.inl rfl | exact Or.inr rfl) (pe_tup (pa_cons (pe_op op_add (pe_ix ix_tup (pv 4) pe_int (fun _ _ => rfl)) (pv 8)) (pa_cons (pe_op op_add (pe_ix ix_tup (pv 4) pe_int (fun _ _ => rfl)) (pv 9)) (pa_cons (pe_op op_add (pe_ix ix_tup (pv 4) pe_int (fun _ _ => rfl)) (pe_op op_mul (pv 8) (pe_ix ix_tup (pv 4) pe_int (fun _ _ => rfl)))) pa_nil)))))
      (pss_one (ps_ret (pe_op op_cat (pv 2) (pe_lst (pa_cons (pe_tup (pa_cons (pe_tup (pa_cons (pv 10) (pa_cons (pv 5) (pa_cons (pe_op op_sub (pv 6) (pe_ix ix_tup (pv 3) pe_int (fun _ _ => rfl))) (pa_cons (pe_op op_mod (pe_op op_add (pv 7) pe_int) (pe_callB call_len_seq rfl T.f_len boot_len (pa_cons (pv 1) pa_nil))) pa_nil))))) (pa_cons (pv 3) pa_nil))) pa_nil)))))))))))), ?_⟩),
    T.g_law_next, F.kp, F.bindsN (by walk_at "b"), .nil⟩
  · obtain ⟨_, _, _, _, _, _, _, _, rfl, _⟩ := h; rfl
  · obtain ⟨ev, nv, av, pa, W, x, j, pl, rfl, he, hn, ⟨xs, hxs, hit⟩, hx, hj, hpl, hz, hb, hok, hno⟩ := h
    have hit0 := hit
    obtain ⟨L, o, hL⟩ := items_last W
    rw [hL] at hit
    obtain ⟨us, xl, rfl, hus, hxl⟩ := hit.snoc_inv
    obtain ⟨ti, v1, v2, rfl, hti, ⟨sa, w1, w2, e1, hsa, q1, q2⟩, _⟩ := hxl
    subst e1
    have hlen : (us ++ [V.ref ti]).length = W.hist.length + 1 := by rw [hit0.len, items_len]
    iterate 2 walk_at "r1"
    refine ⟨_, _, _, _, rfl, rfl, SqL.of hxs, atI_last _ _, ?_⟩
    refine ⟨_, _, _, _, rfl, rfl, SqT.of hti, at0, ?_⟩
    refine ⟨_, _, rfl, SqT.of hsa, rfl, _, _, rfl, _, _, rfl, _, _, rfl, _, _, rfl, rfl, ?_⟩
    have hsa' : H sa = some (.tup [w1, w2, .int W.cur.left, .int W.cur.turn]) := hsa
    have q1' : IsP H w1 W.cur.st := q1
    have q2' : IsP H w2 W.cur.gl := q2
    cases x with
    | undo m =>
      obtain ⟨t, rfl, ht⟩ := hx
      obtain ⟨m', rfl⟩ := Int.eq_ofNat_of_zero_le (show 0 ≤ m from hb)
      walk_at "rd"
      refine ⟨rfl, ?_⟩
      walk_at "rd"
      refine ite2 (fun z => ?_) fun z => ?_
      · refine iteT (hno (fun q => ?_) H (Same.refl H))
        have z' : (m' : Int) < 1 := of_decide_eq_true z
        have := q.1
        omega
      · have z' : ¬ (m' : Int) < 1 := fun q => z (decide_eq_true q)
        walk_at "rd"
        refine ⟨_, _, rfl, .inl (SqL.of hxs), ?_⟩
        walk_at "rd"
        refine ite2 (fun y => ?_) fun y => ?_
        · refine hno (fun q => ?_) H (Same.refl H)
          have y' : (((us ++ [V.ref ti]).length : Nat) : Int) - 1 < m' := of_decide_eq_true y
          have := q.2
          omega
        · have y' : ¬ (((us ++ [V.ref ti]).length : Nat) : Int) - 1 < m' := fun q => y (decide_eq_true q)
          have m2 : m' ≤ W.hist.length := by omega
          refine ⟨_, rfl, _, rfl, _, _, rfl, .inl (SqL.of hxs), ?_⟩
          walk_at "rd"
          refine ⟨_, _, rfl, SqL.of hxs, fun p hp => ?_⟩
          have ec : (((us ++ [V.ref ti]).length : Nat) : Int) - (m' : Int) = ((W.hist.length - m' + 1 : Nat) : Int) := by omega
          refine hok ⟨by omega, by omega⟩ _ p (same_upd hp) hp ⟨_, upd_same, ?_⟩
          show All2 _ (cutV (us ++ [V.ref ti]) none (some ((((us ++ [V.ref ti]).length : Nat) : Int) - (m' : Int)))) (itemsOf (W.upto (W.hist.length - m')).s0 (W.upto (W.hist.length - m')).hist)
          rw [ec, cut_to (by omega), items_upto]
          exact (hit0.imp fun _ _ q => q.mono (same_upd hp)).take _
    | goal g =>
      obtain ⟨t, u, rfl, ht, ⟨tg, rfl, htg⟩⟩ := hx
      walk_at "rd"
      refine ⟨rfl, ?_⟩
      walk_at "rd"
      refine ⟨rfl, ?_⟩
      walk_at "rd"
      refine ⟨_, W.b, _, rfl, he, _, rfl, ?_⟩
      refine ite2 (fun z => ?_) fun z => ?_
      · refine hno (fun q => ?_) H (Same.refl H)
        have q' : W.b.has g.h = true := q
        rw [q'] at z
        cases z
      · have hb' : W.b.has g.h = true := by
          cases e : W.b.has g.h with
          | true => rfl
          | false => exact absurd (by rw [e]; rfl) z
        walk_at "rd"
        refine ⟨l4, fun ts hts => ?_⟩
        have r1 := same_upd (o := .tup [w1, .ref tg, .int W.cur.left, .int W.cur.turn]) hts
        walk_at "rd"
        refine ⟨l2, fun tp htp => ?_⟩
        have r2 := same_upd2 r1 (o := .tup [.ref ts, .ref t]) htp
        have nsp : ts ≠ tp := ne_none upd_same htp
        refine ⟨l1, fun tl htl => ?_⟩
        have r3 := same_upd2 r2 (o := .lst [.ref tp]) htl
        have npl : tp ≠ tl := ne_none upd_same htl
        have nsl : ts ≠ tl := ne_none (show _ = some (HO.tup [w1, .ref tg, .int W.cur.left, .int W.cur.turn]) by rw [upd_ne nsp, upd_same]) htl
        refine ⟨_, _, _, _, rfl, rfl, r3 _ _ hxs, upd_same, ?_, fun p hp => ?_⟩
        · rw [hlen, sizeLine_eq]
          show W.hist.length + 1 + 1 ≤ _
          omega
        · have r4 := same_upd2 r3 (o := .lst (us ++ [V.ref ti] ++ [.ref tp])) hp
          refine hok hb' _ p r4 (fresh_back r3 hp) ⟨_, upd_same, ?_⟩
          show All2 _ _ (itemsOf (W.put (.goal g) ⟨W.cur.st, g, W.cur.left, W.cur.turn⟩).s0 (W.put (.goal g) ⟨W.cur.st, g, W.cur.left, W.cur.turn⟩).hist)
          rw [items_put]
          have h1 := (same_upd (o := .lst (us ++ [V.ref ti] ++ [.ref tp])) hp)
          refine (hit0.imp fun _ _ q => q.mono r4).app (.one ⟨tp, .ref ts, .ref t, rfl, h1 _ _ ?_, ⟨ts, w1, .ref tg, rfl, h1 _ _ ?_, q1'.mono r4, ⟨tg, rfl, r4 _ _ htg⟩⟩, ⟨t, .ref tg, rfl, r4 _ _ ht, ⟨tg, rfl, r4 _ _ htg⟩⟩⟩)
          · rw [upd_ne npl, upd_same]
          · rw [upd_ne nsl, upd_ne nsp, upd_same]
    | adv nm d n =>
      obtain ⟨t, rfl, ht⟩ := hx
      obtain ⟨na, rfl, hna⟩ := hn
      obtain ⟨ps, rfl, hps⟩ := q1'
      have hb' : 1 ≤ n ∧ n ≤ 4 := hb
      have hat : atI (W.ns.map V.str) W.cur.turn = some (.str pl) := by
        rw [hj]
        refine atI_nat ?_
        rw [List.getElem?_map, hpl] <;> rfl
      have hl0 : 0 < W.ns.length := by
        have := (List.getElem?_eq_some_iff.mp hpl).1
        omega
      -- the last part, for any along and rise that are the direction's
      have fin : ∀ (al ri : Int), al = (riseR d n).x → ri = (riseR d n).h →
          tSeq (tIfS (tOr (tTest (tOp rNe (tOp (rIxT K) (tVar 3) (tC (.int 1))) (tOp (rIxT K) (tVar 1) (tVar 7)))) (tOr (tNot (tB (tCall spInside [] E0 (tCons (tVar 0) (tCons (tOp (rI0 fun i j => .int (i + j)) (tOp (rIxT K) (tVar 4) (tC (.int 1))) (tVar 9)) tNil))))) (tB (tGt (tOp (rIxT K) (tVar 3) (tC (.int 3))) (tVar 6))))) (tRet (tC .non)) tNext)
            (tSeq (tAsg (tTup (tCons (tOp (rI0 fun i j => .int (i + j)) (tOp (rIxT K) (tVar 4) (tC (.int 0))) (tVar 8)) (tCons (tOp (rI0 fun i j => .int (i + j)) (tOp (rIxT K) (tVar 4) (tC (.int 1))) (tVar 9)) (tCons (tOp (rI0 fun i j => .int (i + j)) (tOp (rIxT K) (tVar 4) (tC (.int 2))) (tOp (rI CMul fun i j => .int (i * j)) (tVar 8) (tOp (rIxT K) (tVar 4) (tC (.int 1))))) tNil)))) (gName 10))
              (tRet (tOp rCat (tVar 2) (tLst (tCons (tTup (tCons (tTup (tCons (tVar 10) (tCons (tVar 5) (tCons (tOp (rI0 fun i j => .int (i - j)) (tVar 6) (tOp (rIxT K) (tVar 3) (tC (.int 3)))) (tCons (tOp (rI (fun _ j => 0 < j) fun i j => .int (i % j)) (tOp (rI0 fun i j => .int (i + j)) (tVar 7) (tC (.int 1))) (tCB (fun xs H Q => ∃ p ys, xs = [V.ref p] ∧ (SqL K H p ys ∨ SqT K H p ys) ∧ Q (.int ys.length) H) (tCons (tVar 1) tNil))) tNil))))) (tCons (tVar 3) tNil))) tNil)))))
            { nx := fun _ H' => Q .non H', rt := Q } [some ev, some (.ref na), some (.ref pa), some (.ref t), some (.ref ps), some w2, some (.int W.cur.left), some (.int W.cur.turn), some (.int al), some (.int ri), none] H := by
        intro al ri hal hri
        iterate 3 walk_at "r1"
        iterate 1 walk_at "r1"
        refine ⟨_, _, _, _, rfl, rfl, SqT.of hna, hat, rfl, _, rfl, ?_⟩
        have hno' : ¬ advOk W nm pl d n → Q .non H := fun q => hno q H (Same.refl H)
        refine ite2 (fun z => iteT (hno' fun q => ?_)) fun z => ?_
        · rw [q.1, decide_eq_true rfl] at z
          cases z
        · have e' : nm = pl := Classical.byContradiction fun q => z (by rw [decide_eq_false fun y => q (V.str.inj y)]; rfl)
          walk_at "rd"
          refine ⟨_, W.b, _, rfl, he, _, rfl, ?_⟩
          refine ite2 (fun z => iteT (hno' fun q => ?_)) fun z => ?_
          · have q' := q.2.1
            rw [← hri] at q'
            have q'' : (!W.b.has (W.cur.st.h + ri)) = true := z
            rw [q'] at q''
            cases q''
          · have hb2 : W.b.has (W.cur.st.h + ri) = true := by
              cases e : W.b.has (W.cur.st.h + ri) with
              | true => rfl
              | false => exact absurd (show (!W.b.has (W.cur.st.h + ri)) = true by rw [e]; rfl) z
            walk_at "rd"
            refine ite2 (fun z => hno' fun q => ?_) fun z => ?_
            · have z' : W.cur.left < n := of_decide_eq_true z
              have := q.2.2
              omega
            · have z' : ¬ W.cur.left < n := fun q => z (decide_eq_true q)
              have okk : advOk W nm pl d n := ⟨e', by rw [← hri]; exact hb2, by omega⟩
              walk_at "rd"
              refine ⟨.inl ?_, ?_⟩
              · rw [hal]
                cases d <;> exact ⟨by show -(2 ^ 64) < _; simp only [riseR]; omega, by simp only [riseR]; omega⟩
              walk_at "rd"
              refine ⟨l3, fun tn htn => ?_⟩
              have r1 := same_upd (o := .tup [.int (W.cur.st.x + al), .int (W.cur.st.h + ri), .int (W.cur.st.s + al * W.cur.st.h)]) htn
              have hna1 := r1 _ _ hna
              have ht1 := r1 _ _ ht
              have es : (riseR d n).s = 0 := by cases d <;> rfl
              have em : moveR W.cur.st d n = ⟨W.cur.st.x + al, W.cur.st.h + ri, W.cur.st.s + al * W.cur.st.h⟩ := by
                rw [moveR_eq, ← hal, ← hri, es, Int.add_zero, Int.mul_comm]
              walk_at "rd"
              refine ⟨_, _, rfl, .inr (SqT.of hna1), ?_⟩
              walk_at "rd"
              refine ⟨by rw [List.length_map]; omega, l4, fun ts hts => ?_⟩
              have r2 := same_upd2 r1 (o := .tup [.ref tn, w2, .int (W.cur.left - n), .int ((W.cur.turn + 1) % ((W.ns.map V.str).length : Nat))]) hts
              have nns : tn ≠ ts := ne_none upd_same hts
              walk_at "rd"
              refine ⟨l2, fun tp htp => ?_⟩
              have r3 := same_upd2 r2 (o := .tup [.ref ts, .ref t]) htp
              have nsp : ts ≠ tp := ne_none upd_same htp
              have nnp : tn ≠ tp := ne_none (show _ = some (HO.tup [.int (W.cur.st.x + al), .int (W.cur.st.h + ri), .int (W.cur.st.s + al * W.cur.st.h)]) by rw [upd_ne nns, upd_same]) htp
              refine ⟨l1, fun tl htl => ?_⟩
              have r4 := same_upd2 r3 (o := .lst [.ref tp]) htl
              have npl : tp ≠ tl := ne_none upd_same htl
              have nsl : ts ≠ tl := ne_none (show _ = some (HO.tup [.ref tn, w2, .int (W.cur.left - n), .int ((W.cur.turn + 1) % ((W.ns.map V.str).length : Nat))]) by rw [upd_ne nsp, upd_same]) htl
              have nnl : tn ≠ tl := ne_none (show _ = some (HO.tup [.int (W.cur.st.x + al), .int (W.cur.st.h + ri), .int (W.cur.st.s + al * W.cur.st.h)]) by rw [upd_ne nnp, upd_ne nns, upd_same]) htl
              refine ⟨_, _, _, _, rfl, rfl, r4 _ _ hxs, upd_same, ?_, fun p hp => ?_⟩
              · rw [hlen, sizeLine_eq]
                show W.hist.length + 1 + 1 ≤ _
                omega
              · have r5 := same_upd2 r4 (o := .lst (us ++ [V.ref ti] ++ [.ref tp])) hp
                refine hok okk _ p r5 (fresh_back r4 hp) ⟨_, upd_same, ?_⟩
                show All2 _ _ (itemsOf (W.put (.adv nm d n) (advSit W d n)).s0 (W.put (.adv nm d n) (advSit W d n)).hist)
                rw [items_put]
                have h1 := (same_upd (o := .lst (us ++ [V.ref ti] ++ [.ref tp])) hp)
                refine (hit0.imp fun _ _ q => q.mono r5).app (.one ⟨tp, .ref ts, .ref t, rfl, h1 _ _ ?_, ⟨ts, .ref tn, w2, rfl, h1 _ _ ?_, ⟨tn, rfl, h1 _ _ ?_⟩, q2'.mono r5⟩, ⟨t, rfl, r5 _ _ ht⟩⟩)
                · rw [upd_ne npl, upd_same]
                · rw [upd_ne nsl, upd_ne nsp, upd_same, List.length_map] <;> rfl
                · show _ = some (HO.tup [.int (moveR W.cur.st d n).x, .int (moveR W.cur.st d n).h, .int (moveR W.cur.st d n).s])
                  rw [em, upd_ne nnl, upd_ne nnp, upd_ne nns, upd_same]
      cases d
      all_goals
        walk_at "rd"
        refine ⟨rfl, ?_⟩
        walk_at "rd"
        refine ⟨rfl, ?_⟩
        walk_at "rd"
        refine ⟨rfl, .inr ⟨_, rfl, ?_⟩⟩
        walk_at "rd"
        refine ⟨rfl, .inr ⟨_, rfl, ?_⟩⟩
        refine ⟨_, _, rfl, rfl, _, _, rfl, rfl, .inl ⟨by omega, by omega⟩, ?_⟩
        walk_at "rd"
        refine ⟨rfl, .inr ⟨_, rfl, ?_⟩⟩
        walk_at "rd"
        refine ⟨rfl, .inr ⟨_, rfl, ?_⟩⟩
        refine ⟨_, _, rfl, rfl, _, _, rfl, rfl, .inl ⟨by omega, by omega⟩, ?_⟩
        refine fin _ _ ?_ ?_
        · first | exact Int.mul_one n | exact Int.mul_zero n | exact Int.mul_neg_one n
        · first | exact Int.mul_one n | exact Int.mul_zero n | exact Int.mul_neg_one n
end
end Hs
end

/-! HsD22 -/
section
set_option Elab.async false
set_option linter.all false
set_option maxRecDepth 100000
set_option maxHeartbeats 4000000
namespace Hs
open PySem PySem.Spec PyProof.Rows L2
local macro_rules | `(tactic| walk_at "ix") => `(tactic| refine ⟨_, _, _, _, rfl, rfl, SqT.of (by assumption), (by first | exact at0 | exact at1 | exact at2 | exact at3), ?_⟩)
local macro_rules | `(tactic| walk_at "fl") => `(tactic| refine ⟨_, _, _, _, _, rfl, (by assumption), (by first | exact Tx.c_Band (by assumption) | exact Tx.c_Extents (by assumption) | exact Tx.c_Walker (by assumption)), (by first
  | exact Tx.n_Band_low_end (by assumption) | exact Tx.n_Band_high_end (by assumption) | exact Tx.n_Extents_width (by assumption) | exact Tx.n_Extents_climb (by assumption) | exact Tx.n_Extents_depth (by assumption) | exact Tx.n_Extents_base (by assumption) | exact Tx.n_Extents_limit (by assumption)
  | exact Tx.n_Walker_limits (by assumption) | exact Tx.n_Walker_own_players (by assumption) | exact Tx.n_Walker_own_observer (by assumption) | exact Tx.n_Walker_is_observed (by assumption) | exact Tx.n_Walker_first_state (by assumption) | exact Tx.n_Walker_situation (by assumption) | exact Tx.n_Walker_own_actions (by assumption) | exact Tx.n_Walker_earlier (by assumption)), rfl, ?_⟩)
local macro_rules | `(tactic| walk_at "r1") => `(tactic| first | refine ⟨_, rfl, ?_⟩ | refine ⟨_, _, rfl, rfl, ?_⟩ | refine ⟨_, _, rfl, ?_⟩ | walk_at "ix" | walk_at "fl")
local macro_rules | `(tactic| walk_at "rd") => `(tactic| repeat walk_at "r1")
local macro_rules | `(tactic| walk_at "b") => `(tactic| first | (exact fun _ _ _ _ _ _ us hl => match us, hl with | [_], _ => rfl) | (exact fun _ _ _ _ _ _ us hl => match us, hl with | [_, _], _ => rfl) | (exact fun _ _ _ _ _ _ us hl => match us, hl with | [_, _, _], _ => rfl) | (exact fun _ _ _ _ _ _ us hl => match us, hl with | [_, _, _, _], _ => rfl))
section
variable {P : Program} {w : World} {K : PySem.W.Frag} {mg : Str → Option Value} {base : Heap} (T : Tx K mg)
set_option exponentiation.threshold 2000
/-! ### the law's done -/
theorem exm_any (T : Tx K mg) {cls : Value} (h : XCls K cls) : PySem.W.exmAny K cls [.ref (He.ga K "BudgetExceeded"), .ref (He.ga K "NothingToUndo"), .ref (He.ga K "OutsideBand"), .ref (He.ga K "UnknownName")] = some true := by
  obtain ⟨x, hx, rfl⟩ := h
  have e := (ex_unp T).2.2.2.2.1
  have h1 := e x hx "BudgetExceeded" (by simp [excNames])
  have h2 := e x hx "NothingToUndo" (by simp [excNames])
  have h3 := e x hx "OutsideBand" (by simp [excNames])
  have h4 := e x hx "UnknownName" (by simp [excNames])
  unfold PySem.W.exmAny PySem.W.exmAny PySem.W.exmAny PySem.W.exmAny PySem.W.exmAny
  rw [h1, h2, h3, h4]
  simp only [excNames, List.mem_cons, List.not_mem_nil, or_false] at hx
  rcases hx with rfl | rfl | rfl | rfl <;> decide +kernel
def spDone (K : PySem.W.Frag) : Sp := fun vs H Q _ => ∃ (a LA LE : Addr) (W : Wk) (av : V) (x : Act) (j : Nat) (pl : Str), vs = [.ref a, av] ∧ AtW K H a LA LE W ∧ IsAct H av x ∧ W.cur.turn = (j : Int) ∧ W.ns[j]? = some pl ∧ W.hist.length < 1000 ∧ actB W x ∧
  W.b.has W.cur.st.h = true ∧ W.cur.st.Sm ∧ (okx W pl x → ∀ H', SameL [a, LA, LE] H H' → AtW K H' a LA LE (W.next x) → Q (.bl true) H') ∧ (¬ okx W pl x → ∀ H', Same H H' → Q (.bl false) H')
theorem scLawDone : FnScope ["_law_walker", "_law_act_here", "e"] ["_law_walker", "_law_act_here"] (defScope sLawDone) := ⟨rfl, rfl, rfl, by decide +kernel, rfl, by decide +kernel, by decide +kernel⟩
include T in
theorem ok_law_done : Cal P w K mg base 5 "_law_done" (spDone K) [] := by
  obtain ⟨fd, F⟩ := T.d_LawDone
  obtain ⟨fA, fdA, psA, gA, cW, mA, FA, bA⟩ := (ok_Walker_advance (P := P) (w := w) (base := base) T).ex
  obtain ⟨fG, fdG, psG, dsG, _, mG, FG, bG, vG⟩ := (ok_Walker_change_goal (P := P) (w := w) (base := base) T).ex
  obtain ⟨fU, fdU, psU, gU, _, mU, FU, bU⟩ := (ok_Walker_undo (P := P) (w := w) (base := base) T).ex
  cases vG
  refine ⟨_, fd, ["_law_walker", "_law_act_here"], [], F.ok scLawDone (fun vs H Q E h => ?_) (fun cdv A outer s H vs Q E hr h => ⟨_, PSs.nox (
    pss_cons (ps_try_asT (i := 2) rfl rfl scLawDone.nd rfl rfl ⟨rfl, by decide, T.g_BudgetExceeded⟩ ⟨rfl, by decide, T.g_NothingToUndo⟩ ⟨rfl, by decide, T.g_OutsideBand⟩ ⟨rfl, by decide, T.g_UnknownName⟩
      (fun W pn xe tk po => pss_one (ps_if (pt_cmpR op_eq (pe_ix (show IxR _ (rIxT K) from ix_tup) (pv 1) pe_int (fun _ _ => rfl)) pe_str (nomark _))
        (pss_one (ps_expr (pe_mKS (E := fun σ => WE W σ) (pv 0) cW mA FA (hr.mono (by decide)) bA (fun σ => passAt tk σ) (pa_cons (pe_ix (show IxR _ (rIxT K) from ix_tup) (pv 1) pe_int (fun _ _ => rfl)) (pa_cons (pe_ix (show IxR _ (rIxT K) from ix_tup) (pv 1) pe_int (fun _ _ => rfl)) pa_nil)) (pk_cons (pe_ix (show IxR _ (rIxT K) from ix_tup) (pv 1) pe_int (fun _ _ => rfl)) pk_nil))))
        (pss_one (ps_if (pt_cmpR op_eq (pe_ix (show IxR _ (rIxT K) from ix_tup) (pv 1) pe_int (fun _ _ => rfl)) pe_str (nomark _))
          (pss_one (ps_expr (pe_mS (E := fun σ => WE W σ) (pv 0) cW mG FG (hr.mono (by decide)) bG (fun σ => passAt tk σ) (pa_cons (pe_ix (show IxR _ (rIxT K) from ix_tup) (pv 1) pe_int (fun _ _ => rfl)) pa_nil))))
          (pss_one (ps_expr (pe_mKS0 (E := fun σ => WE W σ) (pv 0) cW mU FU (hr.mono (by decide)) bU (fun σ => passAt tk σ) (pk_cons (pe_ix (show IxR _ (rIxT K) from ix_tup) (pv 1) pe_int (fun _ _ => rfl)) pk_nil))))))))
      (fun a oe cls d pn hz hf => pss_one (ps_ret pe_bl)))
    (pss_one (ps_ret pe_bl))), ?_⟩),
    T.g_law_done, F.kp, F.bindsN (by walk_at "b"), .nil⟩
  · obtain ⟨_, _, _, _, _, _, _, _, rfl, _⟩ := h; rfl
  · obtain ⟨a, LA, LE, W, av, x, j, pl, rfl, hW, hx, hj, hpl, hz, hb, hin, hsm, hok, hno⟩ := h
    obtain ⟨⟨dx, lim, ply, st0, sit, xa, xe, h1, h2, h3, h4, h5, h6, h7, h8, h9⟩, ne⟩ := id hW
    cases x with
    | adv nm d n =>
      obtain ⟨t, rfl, ht⟩ := hx
      have hb' : 1 ≤ n ∧ n ≤ 4 := hb
      iterate 2 walk_at "r1"
      refine ⟨rfl, ?_⟩
      iterate 2 walk_at "r1"
      refine ⟨_, _, _, rfl, h1, rfl, ?_⟩
      walk_at "rd"
      refine ⟨rfl, rfl, ?_⟩
      refine ⟨a, LA, LE, W, nm, pl, d, n, j, rfl, hW, hj, hpl, hb'.1, hin, ?_, hz, fun ok H' s' h' => hok ok H' s' h', fun nok cls dd H' hc s' => ⟨exm_any T hc, fun a0 ha0 => hno nok H' s'⟩⟩
      refine wide_mul (b := 3) hsm.h ?_ (by decide) (by decide) (by decide)
      cases d <;> simp only [riseR] <;> omega
    | goal g =>
      obtain ⟨t, u, rfl, ht, hu⟩ := hx
      iterate 2 walk_at "r1"
      refine ⟨rfl, ?_⟩
      iterate 3 walk_at "r1"
      refine ⟨rfl, ?_⟩
      iterate 2 walk_at "r1"
      refine ⟨_, _, _, rfl, h1, rfl, ?_⟩
      walk_at "rd"
      exact ⟨a, LA, LE, W, u, g, rfl, hW, hu, hz, fun ok H' s' h' => hok ok H' s' h', fun nok cls dd H' hc s' => ⟨exm_any T hc, fun a0 ha0 => hno (fun q => by rw [show W.b.has g.h = true from q] at nok; cases nok) H' s'⟩⟩
    | undo m =>
      obtain ⟨t, rfl, ht⟩ := hx
      obtain ⟨m', rfl⟩ := Int.eq_ofNat_of_zero_le (show 0 ≤ m from hb)
      iterate 2 walk_at "r1"
      refine ⟨rfl, ?_⟩
      iterate 3 walk_at "r1"
      refine ⟨rfl, ?_⟩
      iterate 2 walk_at "r1"
      refine ⟨_, _, _, rfl, h1, rfl, ?_⟩
      walk_at "rd"
      refine ⟨rfl, rfl, ?_⟩
      refine ⟨a, LA, LE, W, m', rfl, hW, hz, fun ok H' s' h' => hok ⟨by omega, by omega⟩ H' s' h', fun nok cls dd H' hc s' => ⟨exm_any T hc, fun a0 ha0 => hno (fun q => nok ⟨by have := q.1; omega, by have := q.2; omega⟩) H' s'⟩⟩
end
end Hs
end

/-! HsD23 -/
section
set_option Elab.async false
set_option linter.all false
set_option maxRecDepth 100000
set_option maxHeartbeats 4000000
namespace Hs
open PySem PySem.Spec PyProof.Rows L2
local macro_rules | `(tactic| walk_at "ix") => `(tactic| refine ⟨_, _, _, _, rfl, rfl, SqT.of (by assumption), (by first | exact at0 | exact at1 | exact at2 | exact at3), ?_⟩)
local macro_rules | `(tactic| walk_at "fl") => `(tactic| refine ⟨_, _, _, _, _, rfl, (by assumption), (by first | exact Tx.c_Band (by assumption) | exact Tx.c_Extents (by assumption) | exact Tx.c_Walker (by assumption)), (by first
  | exact Tx.n_Band_low_end (by assumption) | exact Tx.n_Band_high_end (by assumption) | exact Tx.n_Extents_width (by assumption) | exact Tx.n_Extents_climb (by assumption) | exact Tx.n_Extents_depth (by assumption) | exact Tx.n_Extents_base (by assumption) | exact Tx.n_Extents_limit (by assumption)
  | exact Tx.n_Walker_limits (by assumption) | exact Tx.n_Walker_own_players (by assumption) | exact Tx.n_Walker_own_observer (by assumption) | exact Tx.n_Walker_is_observed (by assumption) | exact Tx.n_Walker_first_state (by assumption) | exact Tx.n_Walker_situation (by assumption) | exact Tx.n_Walker_own_actions (by assumption) | exact Tx.n_Walker_earlier (by assumption)), rfl, ?_⟩)
local macro_rules | `(tactic| walk_at "r1") => `(tactic| first | refine ⟨_, rfl, ?_⟩ | refine ⟨_, _, rfl, rfl, ?_⟩ | refine ⟨_, _, rfl, ?_⟩ | walk_at "ix" | walk_at "fl")
local macro_rules | `(tactic| walk_at "rd") => `(tactic| repeat walk_at "r1")
local macro_rules | `(tactic| walk_at "b") => `(tactic| first | (exact fun _ _ _ _ _ _ us hl => match us, hl with | [_], _ => rfl) | (exact fun _ _ _ _ _ _ us hl => match us, hl with | [_, _], _ => rfl) | (exact fun _ _ _ _ _ _ us hl => match us, hl with | [_, _, _], _ => rfl) | (exact fun _ _ _ _ _ _ us hl => match us, hl with | [_, _, _, _], _ => rfl))
section
variable {P : Program} {w : World} {K : PySem.W.Frag} {mg : Str → Option Value} {base : Heap} (T : Tx K mg)
set_option exponentiation.threshold 2000
/-! ### the law's lost -/
def spLost (K : PySem.W.Frag) : Sp := fun vs H Q _ => ∃ (a LA LE pa : Addr) (W : Wk) (lv : V), vs = [.ref a, .ref pa, lv] ∧ AtW K H a LA LE W ∧ IsPast H pa W ∧ IsB K H lv W.b ∧ W.Way ∧ totR W.runs < 1000 ∧
  ((∀ m, 0 ≤ m → m ≤ totR W.runs → ¬ W.far m) → ∀ H', Same H H' → Q .non H') ∧
  (∀ m, 0 ≤ m → m ≤ totR W.runs → W.far m → (∀ i, 0 ≤ i → i < m → ¬ W.far i) → ∀ H', Same H H' → Q (.int (m - 1)) H')
theorem scLawLost : FnScope ["_law_walker", "_law_past", "_law_limits", "_law_runs", "_law_aim", "_law_total", "_law_step", "_law_long", "_law_left", "_law_many"] ["_law_walker", "_law_past", "_law_limits"] (defScope sLawLost) := ⟨rfl, rfl, rfl, by decide +kernel, rfl, by decide +kernel, by decide +kernel⟩
include T in
theorem ok_law_lost : Cal P w K mg base 9 "_law_lost" (spLost K) [] := by
  obtain ⟨fd, F⟩ := T.d_LawLost
  refine ⟨_, fd, ["_law_walker", "_law_past", "_law_limits"], [], F.ok scLawLost (fun vs H Q E h => ?_) (fun cdv A outer s H vs Q E hr h => ⟨_, PSs.nox (pss_cons (ps_par (i := 3) (j := 4) rfl scLawLost.nd rfl rfl (by decide) rfl rfl (pa_cons (pe_mt0 (ok_Walker_walked T) hr (by decide) (pv 0)) (pa_cons (pe_mt0 (ok_Walker_current_goal T) hr (by decide) (pv 0)) pa_nil)) rfl)
      (pss_cons (ps_set (i := 5) scLawLost.nd rfl (by first | exact Or.inl rfl | exact Or.inr rfl) (pe_callB (cr_sum rfl) rfl T.f_sum boot_sum (pa_cons (pe_lc (own := [("_law_step", 6), ("_law_long", 7)]) (g := gTup K 2 (gCons (gName 6) (gCons (gName 7) gNil))) (tt := tYes) rfl scLawLost.nd (pi_list (pv 3)) (blkOk_by (own := [("_law_step", 6), ("_law_long", 7)]) (N := ["_law_walker", "_law_past", "_law_limits", "_law_runs", "_law_aim", "_law_total", "_law_step", "_law_long", "_law_left", "_law_many"]) (sc := defScope sLawLost) (by decide +kernel)) (fun _ _ _ _ _ => pg_tup rfl (pgs_cons (pg_name (i := 6) scLawLost.nd rfl (by first | exact Or.inl rfl | exact Or.inr rfl)) (pgs_cons (pg_name (i := 7) scLawLost.nd rfl (by first | exact Or.inl rfl | exact Or.inr rfl)) pgs_nil))) (fun _ _ _ _ _ => pts_nil) (fun _ _ _ _ _ => pv 7)) pa_nil)))
      (pss_cons (ps_set (i := 8) scLawLost.nd rfl (by first | exact Or.inl rfl | exact Or.inr rfl) (pe_op op_add (pe_mt0 (ok_Walker_budget T) hr (by decide) (pv 0)) (pv 5)))
      (pss_cons (ps_for PassesOwn.never rfl (pi_range1 rfl T.f_range (pa_cons (pe_op op_add (pv 5) pe_int) pa_nil)) (pg_name (i := 9) scLawLost.nd rfl (by first | exact Or.inl rfl | exact Or.inr rfl)) (pss_one (ps_if (pt_cmp (pc_gt (pe_cK (ok_distance T) hr (by decide) (pa_cons (pe_c (ok_state_after T) hr (by decide) (pa_cons (pe_ix ix_tup (pe_ix ix_tup (pe_ix ix_list (pv 1) pe_int (fun _ _ => rfl)) pe_int (fun _ _ => rfl)) pe_int (fun _ _ => rfl)) (pa_cons (pv 3) (pa_cons (pv 9) pa_nil)))) (pa_cons (pv 4) pa_nil)) (pk_cons (pv 2) pk_nil)) (pe_op op_sub (pv 8) (pv 9)))) (pss_one (ps_ret (pe_op op_sub (pv 9) pe_int))) pss_nil)))
      (pss_one (ps_ret pe_non)))))), ?_⟩),
    T.g_law_lost, F.kp, F.bindsN (by walk_at "b"), .nil⟩
  · obtain ⟨_, _, _, _, _, _, rfl, _⟩ := h; rfl
  · obtain ⟨a, LA, LE, pa, W, lv, rfl, hW, hp, hl, y, hz, hno, hyes⟩ := h
    obtain ⟨⟨dx, lim, ply, st0, sit, xa, xe, h1, h2, h3, h4, h5, h6, h7, h8, h9⟩, ne⟩ := id hW
    iterate 1 walk_at "r1"
    refine ⟨_, _, _, rfl, h1, rfl, ?_⟩
    refine ⟨a, LA, LE, W, rfl, hW, y.rp, y.len, fun H1 l s1 hl0 hR => ?_⟩
    have h1b := s1 _ _ h1
    iterate 1 walk_at "r1"
    refine ⟨_, _, _, rfl, h1b, rfl, ?_⟩
    refine ⟨a, LA, LE, W, rfl, hW.mono s1, fun gv hg => ?_⟩
    refine ⟨_, _, rfl, ?_⟩
    have hR' : IsRuns H1 l W.runs := hR
    obtain ⟨xs, hxs, hx⟩ := hR
    refine ⟨_, rfl, _, rfl, ⟨_, SqL.of hxs⟩, fun D hD => ?_⟩
    have hD0 : H1 D = none := hD
    have hrl := W.runs_len y.len
    refine lc_list (xs := xs) (fun i H' => Same H1 H' ∧ H' D = some (.lst (((W.runs.take i).map (·.2)).map V.int))) ⟨same_upd hD, upd_same⟩ (fun i H' _ q => SqL.of (q.1 _ _ hxs)) (fun i x H' hxi q => ?_) fun H' q => ?_
    · obtain ⟨s3, hm3⟩ := q
      obtain ⟨⟨d, n⟩, hr', hxr⟩ := hx.at_ hxi
      obtain ⟨t, rfl, ht⟩ := hxr.mono s3
      have hr2 : W.runs[i]? = some (d, n) := hr'
      refine ⟨_, _, rfl, SqT.of ht, rfl, _, _, rfl, _, _, rfl, rfl, rfl, ?_⟩
      walk_at "rd"
      refine ⟨_, hm3, ?_, same_at hD0 s3, ?_⟩
      · rw [List.length_map, List.length_map, sizeLine_eq]
        have : (W.runs.take i).length ≤ W.runs.length := List.length_take_le' _ _
        omega
      · have e : W.runs.take (i + 1) = W.runs.take i ++ [(d, n)] := by rw [List.take_succ, hr2]; rfl
        rw [upd_same, e, List.map_append, List.map_append] <;> rfl
    · obtain ⟨s3, hm3⟩ := q
      have hx' : All2 (IsRun H1) xs W.runs := hx
      rw [hx'.len, List.take_length] at hm3
      have s13 := s1.trans s3
      refine ⟨_, _, rfl, SqL.of hm3, ?_⟩
      have h1c := s13 _ _ h1
      iterate 1 walk_at "r1"
      refine ⟨_, _, _, rfl, h1c, rfl, ?_⟩
      refine ⟨a, LA, LE, W, rfl, hW.mono s13, ?_⟩
      walk_at "rd"
      have ht0 := y.t0
      have eT : (W.runs.map (·.2)).sum = totR W.runs := rfl
      refine ⟨by omega, by omega, ?_⟩
      refine for_range (lo := 0) (n := ((W.runs.map (·.2)).sum + 1).toNat) (fun i σ H' => Same H H' ∧ IsRuns H' l W.runs ∧ IsP H' gv W.cur.gl ∧ (∀ k : Int, 0 ≤ k → k < i → ¬ W.far k) ∧ ∃ u v z, σ = [some (.ref a), some (.ref pa), some lv, some (.ref l), some gv, some (.int (totR W.runs)), u, v, some (.int (W.cur.left + totR W.runs)), z])
        ⟨s13, hR'.mono s3, hg.mono s3, fun k h0 h1 => by omega, _, _, _, rfl⟩ (fun i σ H4 hi q => ?_) fun σ H4 q => ?_
      · obtain ⟨s4, hR4, hg4, hfar, u, v, z, rfl⟩ := q
        have m0 : (0 : Int) ≤ 0 + (i : Nat) := by omega
        have mT : (0 : Int) + (i : Nat) ≤ totR W.runs := by omega
        obtain ⟨oPQ, oA⟩ := y.ok _ m0 mT
        obtain ⟨ps, hps, hit⟩ := hp.mono s4
        unfold itemsOf at hit
        cases hit with
        | @cons x0 _ xr _ hx0 hxr =>
          obtain ⟨t0, w1, w2, rfl, ht0', ⟨sa, y1, y2, e1, hsa, p1, p2⟩, _⟩ := hx0
          subst e1
          iterate 1 walk_at "r1"
          refine ⟨_, _, _, _, rfl, rfl, SqL.of hps, at0, ?_⟩
          refine ⟨_, _, _, _, rfl, rfl, SqT.of ht0', at0, ?_⟩
          refine ⟨_, _, _, _, rfl, rfl, SqT.of hsa, at0, ?_⟩
          walk_at "rd"
          refine ⟨_, _, _, _, _, rfl, p1, hR4, W.runs_pos, hrl, m0, mT, oA, fun H5 us s5 hus => ?_⟩
          have s45 := s4.trans s5
          walk_at "rd"
          refine ⟨rfl, rfl, us, gv, lv, W.at_ (0 + (i : Nat)), W.cur.gl, W.b, rfl, hus, hg4.mono s5, hl.mono s45, oPQ, fun H6 s6 => ?_⟩
          have s46 := s45.trans s6
          walk_at "rd"
          refine ite2 (fun z => ?_) fun z => ?_
          · have fz : W.far (0 + (i : Nat)) := by
              have q' : W.cur.left + totR W.runs - (0 + (i : Nat)) < dist (W.at_ (0 + (i : Nat))) W.cur.gl W.b := of_decide_eq_true z
              exact q'
            walk_at "rd"
            exact hyes _ m0 mT fz (fun k k0 k1 => hfar k k0 (by omega)) H6 s46
          · have fz : ¬ W.far (0 + (i : Nat)) := fun q => by
              have q' : W.cur.left + totR W.runs - (0 + (i : Nat)) < dist (W.at_ (0 + (i : Nat))) W.cur.gl W.b := q
              exact z (decide_eq_true q')
            refine ⟨s46, hR4.mono (s5.trans s6), hg4.mono (s5.trans s6), fun k k0 k1 => ?_, _, _, _, rfl⟩
            by_cases hk : k < i
            · exact hfar k k0 hk
            · have ek : k = 0 + (i : Nat) := by omega
              rw [ek]
              exact fz
      · obtain ⟨s4, _, _, hfar, _⟩ := q
        exact hno (fun m h0 h1 => hfar m h0 (by omega)) H4 s4
end
end Hs
end

/-! HsRules9 -/
section
set_option Elab.async false
set_option linter.all false
set_option maxRecDepth 100000
set_option maxHeartbeats 4000000
/-! (a, b, ..) = a list of that length -/
namespace Hs
open PySem PySem.Spec PyProof.Rows L2
section
variable {prog : Program} {w : World} {A : Around} {E : Value → Shared → Prop} {s : Shared}
theorem draw_lst {it l : Addr} {items : Array Value} (hne : l ≠ it) : ∀ (n i : Nat) (s : Shared) (Q : List Value → Shared → Prop), s.heap.IsListIter it l i → s.heap.IsList l items → i + n ≤ items.size →
    (∀ h', h'.IsListIter it l (i + n) → Heap.SameBut it s.heap h' → Q ((items.toList.drop i).take n) { s with heap := h' }) → wpAny (model prog w) A (draw (.ref it) n) Q E s
  | 0, i, s, Q, hit, _, _, hQ => by
    show wpAny _ _ (pure []) Q E s
    exact wpAny_pure (by simpa using hQ s.heap hit (Heap.SameBut.refl ..))
  | n + 1, i, s, Q, hit, ht, hle, hQ => by
    have hlt : i < items.size := by omega
    show wpAny _ _ (pyNext (.ref it) >>= _) Q E s
    refine wpAny_bind (wpAny_pyNext_list_item hit ht (x := items[i]) (by simp [hlt]) fun h₁ hit₁ hs₁ => ?_)
    have ht₁ : h₁.IsList l items := by
      obtain ⟨o, ho, r⟩ := ht
      exact ⟨o, by rw [hs₁.2 l hne]; exact ho, r⟩
    refine wpAny_bind (wpAny_holding (draw_lst hne n (i + 1) _ _ hit₁ ht₁ (by omega) fun h₂ hit₂ hs₂ => wpAny_pure ?_))
    have hd : items.toList.drop i = items[i] :: items.toList.drop (i + 1) := by simp [List.drop_eq_getElem_cons, hlt]
    have := hQ h₂ (by rw [show i + (n + 1) = i + 1 + n by omega]; exact hit₂) (hs₁.trans hs₂)
    rw [hd, List.take_succ_cons] at this
    exact this
theorem unpack_lst {l : Addr} {items : Array Value} {targets : List (Bool × (Value → Sem Unit))} {Q : Unit → Shared → Prop} (hh : A.handled = none) (ht : s.heap.IsList l items)
    (hn : targets.length = items.size) (hstar : targets.findIdx? (·.1) = none)
    (h : ∀ h', Heap.ExtBut s.heap.objs.size s.heap h' → wpAny (model prog w) A (assignInOrder (targets.map (·.2)) items.toList) Q E { s with heap := h' }) :
    wpAny (model prog w) A (unpack (.ref l) targets) Q E s := by
  unfold unpack
  rw [hn, hstar]
  refine wpAny_bind (wpAny_holding ?_)
  have hlt : l ≠ s.heap.objs.size := by obtain ⟨o, ho, _⟩ := ht; exact Nat.ne_of_lt (Heap.lt_size ho)
  unfold unpackItems
  refine wpAny_bind ?_
  unfold notIterableAtAll
  refine wpAny_bind (wpAny_specialOf ht.typeIs F.slot_list_iter.lookup ?_)
  refine wpAny_pure ?_
  simp only [Bool.false_eq_true, if_false]
  refine wpAny_bind (wpAny_holding (wpAny_pyIter_list ht ?_))
  have ht0 : (s.heap.push { cls := .type "list_iterator", data := .fields #[.ref l, .int 0 0] }).IsList l items := by
    obtain ⟨o, ho, r⟩ := ht
    exact ⟨o, Heap.get?_push_of_some _ ho, r⟩
  refine wpAny_bind (wpAny_holding (draw_lst hlt items.size 0 _ _ ⟨_, Heap.get?_push_size _ rfl, rfl, rfl⟩ ht0 (by omega) fun h₁ hit₁ hs₁ => ?_))
  have hall : List.take items.size (List.drop 0 items.toList) = items.toList := by
    rw [List.drop_zero]; exact List.take_of_length_le (by simp)
  rw [hall]
  rw [if_neg (by simp)]
  have ht₁ : h₁.IsList l items := by
    obtain ⟨o, ho, r⟩ := ht0
    exact ⟨o, by rw [hs₁.2 l hlt]; exact ho, r⟩
  refine wpAny_bind (wpAny_holding (wpAny_pyNext_list_end hh hit₁ ht₁ (by simp) fun h₂ he₂ => ?_))
  simp only [Option.isSome_none, Bool.false_eq_true, if_false]
  exact wpAny_pure (h h₂ fun b o hb e => he₂ b o hb (hs₁.extBut b o hb (Heap.get?_push_of_some _ e)))
end
section
variable {X : Cx} {pos : Pos}
def gLst (K : PySem.W.Frag) (n : Nat) (t : TGs) : TG := fun v σ H Q => ∃ a xs, v = .ref a ∧ SqL K H a xs ∧ xs.length = n ∧ t xs σ H Q
theorem pg_lst {es : List Expr} {k : Nat} {t : TGs} {n : Nat} (hc : X.calm = true) (h : PGs X es t)
    (hn : (assignEach es X.env).length = n := by rfl) (hst : (assignEach es X.env).findIdx? (·.1) = none := by rfl) : PG X (.Tuple es k pos) (gLst X.K n t) := by
  refine ⟨fun pins s σ H v u Q I r hw => ?_⟩
  obtain ⟨a, xs, e1, hq, hl, hw⟩ := hw
  subst e1
  cases r
  obtain ⟨its, rv, ht, hz⟩ := I.list hq
  rw [PyProof.Rows.assign_Tuple]
  refine wpAny_bind (wpAny_standAt (unpack_lst (I.ok.hd hc) ht.isList (by simp [hn, ← hl, rv.length]) hst fun h' hx => ?_))
  have I1 : L2.Inv X pins σ H { s with heap := h' } := I.kept (t' := s.toks) fun b o e => hx b o (Nat.ne_of_lt (Heap.lt_size e)) e
  exact h.run pins _ σ H xs _ Q I1 (by simpa using rv) hw
end
end Hs
end

/-! HsD24 -/
section
set_option Elab.async false
set_option linter.all false
set_option maxRecDepth 100000
set_option maxHeartbeats 4000000
namespace Hs
open PySem PySem.Spec PyProof.Rows L2
local macro_rules | `(tactic| walk_at "ix") => `(tactic| refine ⟨_, _, _, _, rfl, rfl, SqT.of (by assumption), (by first | exact at0 | exact at1 | exact at2 | exact at3), ?_⟩)
local macro_rules | `(tactic| walk_at "fl") => `(tactic| refine ⟨_, _, _, _, _, rfl, (by assumption), (by first | exact Tx.c_Band (by assumption) | exact Tx.c_Extents (by assumption) | exact Tx.c_Walker (by assumption)), (by first
  | exact Tx.n_Band_low_end (by assumption) | exact Tx.n_Band_high_end (by assumption) | exact Tx.n_Extents_width (by assumption) | exact Tx.n_Extents_climb (by assumption) | exact Tx.n_Extents_depth (by assumption) | exact Tx.n_Extents_base (by assumption) | exact Tx.n_Extents_limit (by assumption)
  | exact Tx.n_Walker_limits (by assumption) | exact Tx.n_Walker_own_players (by assumption) | exact Tx.n_Walker_own_observer (by assumption) | exact Tx.n_Walker_is_observed (by assumption) | exact Tx.n_Walker_first_state (by assumption) | exact Tx.n_Walker_situation (by assumption) | exact Tx.n_Walker_own_actions (by assumption) | exact Tx.n_Walker_earlier (by assumption)), rfl, ?_⟩)
local macro_rules | `(tactic| walk_at "r1") => `(tactic| first | refine ⟨_, rfl, ?_⟩ | refine ⟨_, _, rfl, rfl, ?_⟩ | refine ⟨_, _, rfl, ?_⟩ | walk_at "ix" | walk_at "fl")
local macro_rules | `(tactic| walk_at "rd") => `(tactic| repeat walk_at "r1")
local macro_rules | `(tactic| walk_at "b") => `(tactic| first | (exact fun _ _ _ _ _ _ us hl => match us, hl with | [_], _ => rfl) | (exact fun _ _ _ _ _ _ us hl => match us, hl with | [_, _], _ => rfl) | (exact fun _ _ _ _ _ _ us hl => match us, hl with | [_, _, _], _ => rfl) | (exact fun _ _ _ _ _ _ us hl => match us, hl with | [_, _, _, _], _ => rfl))
section
variable {P : Program} {w : World} {K : PySem.W.Frag} {mg : Str → Option Value} {base : Heap} (T : Tx K mg)
set_option exponentiation.threshold 2000
/-! ### the law's same -/
theorem gdVO {o : Option Int} (h : ∀ i, o = some i → i.natAbs < 2 ^ 100) : Gd 0 0 (match o with | none => PyData.none | some i => .int i) := by
  cases o with
  | none => exact .non
  | some i => exact .int (small_int (h i rfl))
theorem acts_dpAll {K : PySem.W.Frag} {H : Hp} : ∀ {xs : List V} {as : List Act}, All2 (IsAct H) xs as → DpAll K H xs (as.map dAct)
  | _, _, .nil => .nil
  | _, _, .cons (x := v) (y := a) h t => by
    refine .cons ?_ (acts_dpAll t)
    cases a with
    | adv nm d n => obtain ⟨p, rfl, q⟩ := h; exact .tup (SqT.of q) (.cons (.str _) (.cons (.str _) (.cons (.str _) (.cons (.int _) .nil))))
    | goal g => obtain ⟨p, u, rfl, q, ⟨g', rfl, q'⟩⟩ := h; exact .tup (SqT.of q) (.cons (.str _) (.cons (.tup (SqT.of q') (.cons (.int _) (.cons (.int _) (.cons (.int _) .nil)))) .nil))
    | undo n => obtain ⟨p, rfl, q⟩ := h; exact .tup (SqT.of q) (.cons (.str _) (.cons (.int _) .nil))
/-- what the law keeps of its walker, as the comparison wants it -/
structure Fine (W : Wk) (j : Nat) (pl : Str) : Prop where
  way : W.Way
  tot : totR W.runs < 1000
  mono : ∀ m, 0 ≤ m → m + 1 ≤ totR W.runs → W.far m → W.far (m + 1)
  zero : W.cur.st = W.cur.gl → dist W.cur.st W.cur.gl W.b = 0
  l0 : 0 ≤ W.cur.left
  l1 : W.cur.left < 1000
  hl : W.hist.length ≤ 20
  acts : ∀ x ∈ W.hist.map (·.1), actSm x
  st : W.cur.st.Sm
  gl : W.cur.gl.Sm
  turn : W.cur.turn = (j : Int)
  hpl : W.ns[j]? = some pl
  nm : NameOk pl
def spSame (K : PySem.W.Frag) : Sp := fun vs H Q _ => ∃ (a LA LE pa : Addr) (W : Wk) (nv lv : V) (j : Nat) (pl : Str), vs = [.ref a, nv, .ref pa, lv] ∧ AtW K H a LA LE W ∧ IsNames H nv W.ns ∧ IsPast H pa W ∧ IsB K H lv W.b ∧ Fine W j pl ∧ ∀ H', Same H H' → Q (.bl true) H'
def dFound (W : Wk) (pl : Str) : PyData := .list [dP W.cur.st, dP W.cur.gl, .int W.cur.left, .str pl, .list ((W.hist.map (·.1)).map dAct)]
theorem gdFound {W : Wk} {j : Nat} {pl : Str} (f : Fine W j pl) : Gd 10 2000 (dFound W pl) := by
  have h1 : W.cur.left.natAbs < 2 ^ 1900 := small_int (Nat.lt_trans (show W.cur.left.natAbs < 1000 by have := f.l0; have := f.l1; omega) (by decide))
  have h2 := GdAll.map (f := dAct) (k := 2) (N := 40) (xs := W.hist.map (·.1)) fun x hx => gdAct (f.acts x hx)
  have h3 : (40 + 1) * (W.hist.map (·.1)).length ≤ 820 := by
    rw [List.length_map]
    have := f.hl
    omega
  have g3 : Gd 3 820 (.list ((W.hist.map (·.1)).map dAct)) := (Gd.lst h2).mono (Nat.le_refl _) h3
  have g := Gd.lst (GdAll.cons ((gdP f.st).mono (show 0 + 1 ≤ 9 by decide) (Nat.le_refl _)) (GdAll.cons ((gdP f.gl).mono (show 0 + 1 ≤ 9 by decide) (Nat.le_refl _)) (GdAll.cons ((Gd.int h1).mono (show 0 ≤ 9 by decide) (Nat.le_refl _)) (GdAll.cons ((gdName f.nm).mono (show 0 ≤ 9 by decide) (Nat.le_refl _)) (GdAll.cons (g3.mono (show 3 ≤ 9 by decide) (Nat.le_refl _)) (GdAll.nil (k := 9) (N := 0)))))))
  exact g.mono (Nat.le_refl _) (by decide)
theorem cut_from1 {xs : List V} (h : 1 ≤ xs.length) : cutV xs (some 1) none = xs.drop 1 := by
  unfold cutV
  have e : HT.sIx xs.length 0 (some 1) = 1 := by
    have := HT.sIx_nat xs.length 0 1
    have h2 : HT.sIx xs.length 0 (some ((1 : Nat) : Int)) = min 1 xs.length := this
    exact h2.trans (Nat.min_eq_left h)
  rw [e, HT.sIx_none]
  exact List.take_of_length_le (by rw [List.length_drop]; omega)
theorem le_tot : ∀ {rs : List Run}, (∀ r ∈ rs, 0 < r.2) → 0 ≤ totR rs ∧ ∀ r ∈ rs, r.2 ≤ totR rs
  | [], _ => ⟨Int.le_refl _, fun r h => by cases h⟩
  | x :: rs, h => by
    obtain ⟨h0, h1⟩ := le_tot (rs := rs) fun r hr => h r (List.mem_cons_of_mem _ hr)
    have hx := h x (List.mem_cons_self ..)
    have e : totR (x :: rs) = x.2 + totR rs := by unfold totR; rw [List.map_cons, List.sum_cons]
    refine ⟨by omega, fun r hr => ?_⟩
    rcases List.mem_cons.mp hr with rfl | hr
    · omega
    · have := h1 r hr
      omega
theorem gdRuns {W : Wk} {j : Nat} {pl : Str} (f : Fine W j pl) : Gd 10 200 (dRuns W.runs) := by
  have hp := W.runs_pos
  obtain ⟨t0, t1⟩ := le_tot hp
  have h2 := GdAll.map (f := dRun) (k := 1) (N := 4) (xs := W.runs) fun r hr => by
    have hn : r.2.natAbs < 2 ^ 1900 := small_int (Nat.lt_trans (show r.2.natAbs < 1000 by have := hp r hr; have := t1 r hr; have := f.tot; omega) (by decide))
    have g := Gd.tup (GdAll.cons (gdDir r.1) (GdAll.cons (Gd.int hn) (GdAll.nil (N := 0))))
    exact g.mono (by decide) (by decide)
  have hl : W.runs.length ≤ 20 := by
    have a := mergeR_len (advR (W.hist.map (·.1))) []
    have b := advR_len (W.hist.map (·.1))
    rw [List.length_map] at b
    rw [List.length_nil] at a
    have := f.hl
    show (mergeR [] _).length ≤ _
    omega
  have g := Gd.lst h2
  exact g.mono (by decide) (by omega)
def dO : Option Int → PyData
  | none => .none
  | some i => .int i
theorem vO_dp {K : PySem.W.Frag} {H : Hp} (o : Option Int) : Dp K H (vO o) (dO o) := by
  cases o with
  | none => exact .non
  | some i => exact .int i
theorem statS_cases (W : Wk) : statS W = ("arrived" : Str) ∨ statS W = ("lost" : Str) ∨ statS W = ("underway" : Str) := by
  unfold statS
  split
  · exact .inl rfl
  · split
    · exact .inr (.inl rfl)
    · exact .inr (.inr rfl)
theorem gdLast {W : Wk} {lo : Option Int} {n : Nat} (h : ∀ i, lo = some i → i.natAbs < 2 ^ 100) (hn : n < 1000) : Gd 10 200 (.list [.str (statS W), dO lo, .int (n : Int)]) := by
  have g1 : Gd 0 8 (.str (statS W)) := by
    rcases statS_cases W with e | e | e <;> rw [e] <;> exact gdLit (by decide +kernel) (by decide +kernel)
  have g2 : Gd 0 0 (dO lo) := by
    cases lo with
    | none => exact .non
    | some i => exact .int (small_int (h i rfl))
  have hn' : ((n : Int)).natAbs < 2 ^ 1900 := small_int (Nat.lt_trans (show ((n : Int)).natAbs < 1000 by omega) (by decide))
  have g := Gd.lst (GdAll.cons g1 (GdAll.cons g2 (GdAll.cons (Gd.int hn') (GdAll.nil (N := 0)))))
  exact g.mono (by decide) (by decide)
theorem scLawSame : FnScope ["_law_walker", "_law_names_here", "_law_past", "_law_limits", "_law_state", "_law_aim", "_law_left", "_law_turn", "_law_found", "_law_now", "_law_act_here", "_law_runs", "_law_long", "_law_lost_here", "_law_due"] ["_law_walker", "_law_names_here", "_law_past", "_law_limits"] (defScope sLawSame) := ⟨rfl, rfl, rfl, by decide +kernel, rfl, by decide +kernel, by decide +kernel⟩
include T in
theorem ok_law_same : ∃ fd, FnG P w K mg base (L2.CX P w) 12 (He.ga K "_law_same") fd ["_law_walker", "_law_names_here", "_law_past", "_law_limits"] (spSame K) ∧ PySem.W.keepIn K (.ref (He.ga K "_law_same")) = true ∧ Binds K fd ["_law_walker", "_law_names_here", "_law_past", "_law_limits"] [] := by
  obtain ⟨fd, F⟩ := T.d_LawSame
  obtain ⟨fdL, FL, bL⟩ := ok_Walker_len (P := P) (w := w) (base := base) T
  refine ⟨fd, funD_okG F scLawSame (fun vs H Q E h => ?_) (fun cdv A outer s H vs Q E hgd hr h => ⟨_, PSs.nox (pss_cons (ps_asg (pe_ix ix_tup (pe_ix ix_list (pv 2) (pe_un un_neg pe_int) (fun _ _ => rfl)) pe_int (fun _ _ => rfl)) (pg_tup rfl (pgs_cons (pg_name (i := 4) scLawSame.nd rfl (by first | exact Or.inl rfl | exact Or.inr rfl)) (pgs_cons (pg_name (i := 5) scLawSame.nd rfl (by first | exact Or.inl rfl | exact Or.inr rfl)) (pgs_cons (pg_name (i := 6) scLawSame.nd rfl (by first | exact Or.inl rfl | exact Or.inr rfl)) (pgs_cons (pg_name (i := 7) scLawSame.nd rfl (by first | exact Or.inl rfl | exact Or.inr rfl)) pgs_nil))))))
      (pss_cons (ps_set (i := 8) scLawSame.nd rfl (by first | exact Or.inl rfl | exact Or.inr rfl) (pe_lst (pa_cons (pe_mt0 (ok_Walker_current_state T) hr (by decide) (pv 0)) (pa_cons (pe_mt0 (ok_Walker_current_goal T) hr (by decide) (pv 0)) (pa_cons (pe_mt0 (ok_Walker_budget T) hr (by decide) (pv 0)) (pa_cons (pe_mt0 (ok_Walker_player T) hr (by decide) (pv 0)) (pa_cons (pe_mt0 (ok_Walker_actions T) hr (by decide) (pv 0)) pa_nil)))))))
      (pss_cons (ps_if (pt_cmpR op_ne (pe_callB (cr_repr hgd hr) rfl T.f_repr boot_repr (pa_cons (pv 8) pa_nil)) (pe_callB (cr_repr hgd hr) rfl T.f_repr boot_repr (pa_cons (pe_lst (pa_cons (pv 4) (pa_cons (pv 5) (pa_cons (pv 6) (pa_cons (pe_ix ix_tup (pv 1) (pv 7) (fun _ _ => rfl)) (pa_cons (pe_lc (own := [("_law_now", 9), ("_law_act_here", 10)]) (g := gTup K 2 (gCons (gName 9) (gCons (gName 10) gNil))) (tt := tYes) rfl scLawSame.nd (pi_list (pe_slice sl_list (pv 2) (po_some pe_int) po_none)) (blkOk_by (own := [("_law_now", 9), ("_law_act_here", 10)]) (N := ["_law_walker", "_law_names_here", "_law_past", "_law_limits", "_law_state", "_law_aim", "_law_left", "_law_turn", "_law_found", "_law_now", "_law_act_here", "_law_runs", "_law_long", "_law_lost_here", "_law_due"]) (sc := defScope sLawSame) (by decide +kernel)) (fun _ _ _ _ _ => pg_tup rfl (pgs_cons (pg_name (i := 9) scLawSame.nd rfl (by first | exact Or.inl rfl | exact Or.inr rfl)) (pgs_cons (pg_name (i := 10) scLawSame.nd rfl (by first | exact Or.inl rfl | exact Or.inr rfl)) pgs_nil))) (fun _ _ _ _ _ => pts_nil) (fun _ _ _ _ _ => pv 10)) pa_nil)))))) pa_nil)) (nomark _)) (pss_one (ps_ret pe_bl)) pss_nil)
      (pss_cons (ps_set (i := 11) scLawSame.nd rfl (by first | exact Or.inl rfl | exact Or.inr rfl) (pe_lst pa_nil))
      (pss_cons (ps_for PassesOwn.never rfl (pi_list (pe_slice sl_list (pv 2) (po_some pe_int) po_none)) (pg_tup rfl (pgs_cons (pg_name (i := 9) scLawSame.nd rfl (by first | exact Or.inl rfl | exact Or.inr rfl)) (pgs_cons (pg_name (i := 10) scLawSame.nd rfl (by first | exact Or.inl rfl | exact Or.inr rfl)) pgs_nil))) (pss_one (ps_if (pt_cmpR op_eq (pe_ix ix_tup (pv 10) pe_int (fun _ _ => rfl)) pe_str (nomark _)) (pss_cons (ps_set (i := 12) scLawSame.nd rfl (by first | exact Or.inl rfl | exact Or.inr rfl) (pe_ix ix_tup (pv 10) pe_int (fun _ _ => rfl)))
      (pss_cons (ps_if (PW.pt (pw_and (pt_cmpR (op_neD hr.units) (pv 11) (pe_lst pa_nil) (nomark _)) (pw_and1 (pt_cmpR op_eq (pe_ix ix_tup (pe_ix ix_list (pv 11) (pe_un un_neg pe_int) (fun _ _ => rfl)) pe_int (fun _ _ => rfl)) (pe_ix ix_tup (pv 10) pe_int (fun _ _ => rfl)) (nomark _))))) (pss_one (ps_set (i := 12) scLawSame.nd rfl (by first | exact Or.inl rfl | exact Or.inr rfl) (pe_op op_add (pv 12) (pe_ix ix_tup (pe_bm0 PySem.F.plainAttrs_list PySem.F.slot_list_pop PySem.F.type_list_pop mt_pop (pv 11)) pe_int (fun _ _ => rfl))))) pss_nil)
      (pss_one (ps_expr (pe_bm PySem.F.plainAttrs_list PySem.F.slot_list_append PySem.F.type_list_append mt_append (pv 11) (pa_cons (pe_tup (pa_cons (pe_ix ix_tup (pv 10) pe_int (fun _ _ => rfl)) (pa_cons (pv 12) pa_nil))) pa_nil)))))) pss_nil)))
      (pss_cons (ps_if (pt_cmpR op_ne (pe_callB (cr_repr hgd hr) rfl T.f_repr boot_repr (pa_cons (pe_mt0 (ok_Walker_walked T) hr (by decide) (pv 0)) pa_nil)) (pe_callB (cr_repr hgd hr) rfl T.f_repr boot_repr (pa_cons (pv 11) pa_nil)) (nomark _)) (pss_one (ps_ret pe_bl)) pss_nil)
      (pss_cons (ps_set (i := 13) scLawSame.nd rfl (by first | exact Or.inl rfl | exact Or.inr rfl) (pe_c (ok_law_lost T) hr (by decide) (pa_cons (pv 0) (pa_cons (pv 2) (pa_cons (pv 3) pa_nil)))))
      (pss_cons (ps_set (i := 14) scLawSame.nd rfl (by first | exact Or.inl rfl | exact Or.inr rfl) (pe_ix ix_list (pe_lst (pa_cons pe_str (pa_cons pe_str pa_nil))) (pe_callTy call_int1 rfl T.f_int boot_int (pa_cons (pe_cmp (pc_notN (pv 13))) pa_nil)) (fun _ _ => rfl)))
      (pss_cons (ps_if (pt_cmpR (op_eqD hr.units) (pv 4) (pv 5) (nomark _)) (pss_one (ps_set (i := 14) scLawSame.nd rfl (by first | exact Or.inl rfl | exact Or.inr rfl) pe_str)) pss_nil)
      (pss_one (ps_ret (pe_cmpR op_eq (pe_callB (cr_repr hgd hr) rfl T.f_repr boot_repr (pa_cons (pe_lst (pa_cons (pe_mt0 (ok_Walker_status T) hr (by decide) (pv 0)) (pa_cons (pe_mt0 (ok_Walker_lost_at T) hr (by decide) (pv 0)) (pa_cons (pe_callB (call_lenO (C := WC K) T.m_Walker_len.at_ T.m_Walker_len.fn FL (hr.mono (j := 2) (by decide)).in1 bL passL) rfl T.f_len boot_len (pa_cons (pv 0) pa_nil)) pa_nil)))) pa_nil)) (pe_callB (cr_repr hgd hr) rfl T.f_repr boot_repr (pa_cons (pe_lst (pa_cons (pv 14) (pa_cons (pv 13) (pa_cons (pe_op op_sub (pe_callB call_len_seq rfl T.f_len boot_len (pa_cons (pv 2) pa_nil)) pe_int) pa_nil)))) pa_nil)) (nomark _))))))))))))), ?_⟩), F.kp, F.bindsN (by walk_at "b")⟩
  · obtain ⟨_, _, _, _, _, _, _, _, _, rfl, _⟩ := h; rfl
  · obtain ⟨a, LA, LE, pa, W, nv, lv, j, pl, rfl, hW, hn, hp, hlv, f, h⟩ := h
    obtain ⟨⟨dx, lim, ply, st0, sit, xa, xe, h1, h2, h3, h4, h5, h6, h7, h8, h9⟩, ne⟩ := id hW
    obtain ⟨ps, hps, hit0⟩ := hp
    have hit := hit0
    obtain ⟨L, o, hL⟩ := items_last W
    rw [hL] at hit
    obtain ⟨us, xl, eps, hus, hxl⟩ := hit.snoc_inv
    obtain ⟨ti, v1, v2, rfl, hti, ⟨sa, w1, w2, e1, hsa, q1, q2⟩, _⟩ := hxl
    subst e1
    have hsa' : H sa = some (.tup [w1, w2, .int W.cur.left, .int W.cur.turn]) := hsa
    have q1' : IsP H w1 W.cur.st := q1
    have q2' : IsP H w2 W.cur.gl := q2
    have hlen : ps.length = W.hist.length + 1 := by rw [hit0.len, items_len]
    have hlast : atI ps (-1) = some (V.ref ti) := by rw [eps]; exact atI_last _ _
    have hit1 : All2 (IsItem H) (ps.drop 1) (W.hist.map fun p => (some p.1, p.2)) := hit0.drop 1
    obtain ⟨na, rfl, hna⟩ := hn
    have hat : atI (W.ns.map V.str) W.cur.turn = some (.str pl) := by
      rw [f.turn]
      refine atI_nat ?_
      rw [List.getElem?_map, f.hpl] <;> rfl
    have gf := gdFound f
    iterate 2 walk_at "r1"
    refine ⟨_, _, _, _, rfl, rfl, SqL.of hps, hlast, ?_⟩
    refine ⟨_, _, _, _, rfl, rfl, SqT.of hti, at0, ?_⟩
    refine ⟨_, _, rfl, SqT.of hsa', rfl, _, _, rfl, _, _, rfl, _, _, rfl, _, _, rfl, rfl, ?_⟩
    refine ⟨_, rfl, _, _, _, rfl, h1, rfl, ?_⟩
    refine ⟨a, LA, LE, W, rfl, hW, fun sv hsv => ?_⟩
    refine ⟨_, rfl, _, _, _, rfl, h1, rfl, ?_⟩
    refine ⟨a, LA, LE, W, rfl, hW, fun gv hgv => ?_⟩
    refine ⟨_, rfl, _, _, _, rfl, h1, rfl, ?_⟩
    refine ⟨a, LA, LE, W, rfl, hW, ?_⟩
    refine ⟨_, rfl, _, _, _, rfl, h1, rfl, ?_⟩
    refine ⟨a, LA, LE, W, j, pl, rfl, hW, f.turn, f.hpl, ?_⟩
    refine ⟨_, rfl, _, _, _, rfl, h1, rfl, ?_⟩
    refine ⟨a, LA, LE, W, rfl, hW, fun H1 al xs s1 hal hxs hacts => ?_⟩
    refine ⟨l5, fun fl hfl => ?_⟩
    have s2 := same_upd2 s1 (o := .lst [sv, gv, .int W.cur.left, .str pl, .ref al]) hfl
    have u2 := same_upd (o := .lst [sv, gv, .int W.cur.left, .str pl, .ref al]) hfl
    refine ⟨_, rfl, ?_⟩
    refine ⟨fl, dFound W pl, rfl, .lst (SqL.of upd_same) (.cons (hsv.mono s2).dp (.cons (hgv.mono s2).dp (.cons (.int _) (.cons (.str _) (.cons (.lst (SqL.of (u2 _ _ hxs)) (acts_dpAll (hacts.imp fun _ _ q => q.mono u2))) .nil))))), gf.sh, gf.hd, Nat.le_trans gf.dp (by decide), gf.len (by decide), ?_⟩
    have hna2 := s2 _ _ hna
    iterate 4 walk_at "r1"
    refine ⟨_, rfl, _, _, _, _, rfl, rfl, SqT.of hna2, hat, ?_⟩
    iterate 2 walk_at "r1"
    refine ⟨_, _, rfl, SqL.of (s2 _ _ hps), fun cp hcp => ?_⟩
    have ec : cutV ps (some 1) none = ps.drop 1 := cut_from1 (by omega)
    rw [ec]
    have u3 := same_upd (o := .lst (ps.drop 1)) hcp
    have s3 := s2.trans u3
    have hcp3 : upd (upd H1 fl (.lst [sv, gv, .int W.cur.left, .str pl, .ref al])) cp (.lst (ps.drop 1)) cp = some (.lst (ps.drop 1)) := upd_same
    have hfl3 := u3 fl _ upd_same
    have hxs3 := u3 _ _ (u2 _ _ hxs)
    generalize upd (upd H1 fl (.lst [sv, gv, .int W.cur.left, .str pl, .ref al])) cp (.lst (ps.drop 1)) = H3 at s3 hcp3 hfl3 hxs3 ⊢
    refine ⟨_, rfl, ⟨_, SqL.of hcp3⟩, fun D hD => ?_⟩
    have actAt : ∀ {i : Nat} {x : V} {H' : Hp}, (ps.drop 1)[i]? = some x → Same H H' → ∃ t w1 av ac sx, x = .ref t ∧ H' t = some (.tup [w1, av]) ∧ IsAct H' av ac ∧ W.hist[i]? = some (ac, sx) := fun {i x H'} hx sH => by
      obtain ⟨⟨oa, sx⟩, hi, hxi⟩ := hit1.at_ hx
      rw [List.getElem?_map] at hi
      obtain ⟨⟨ac, sy⟩, hh, e⟩ := Option.map_eq_some_iff.mp hi
      cases e
      obtain ⟨t, w1, av, rfl, ht, _, hav⟩ := hxi
      exact ⟨t, w1, av, ac, _, rfl, sH _ _ ht, IsAct.mono hav sH, hh⟩
    refine lc_list (xs := ps.drop 1) (fun i H' => Same H3 H' ∧ ∃ ys, H' D = some (.lst ys) ∧ All2 (IsAct H') ys ((W.hist.map (·.1)).take i)) ⟨same_upd hD, [], upd_same, .nil⟩ (fun i H' _ q => SqL.of (q.1 _ _ hcp3)) (fun i x H' hxi q => ?_) fun H' q => ?_
    · obtain ⟨sq, ys, hys, hya⟩ := q
      obtain ⟨t, y1, av, ac, sx, rfl, ht, hav, hh⟩ := actAt hxi (s3.trans sq)
      refine ⟨_, _, rfl, SqT.of ht, rfl, _, _, rfl, _, _, rfl, rfl, rfl, ?_⟩
      walk_at "rd"
      have ntD : t ≠ D := fun z => by rw [z, hys] at ht; cases ht
      refine ⟨ys, hys, ?_, same_at hD sq, _, upd_same, ?_⟩
      · have q1 := hya.len
        have q3 : ((W.hist.map (·.1)).take i).length ≤ (W.hist.map (·.1)).length := List.length_take_le' _ _
        rw [List.length_map] at q3
        have := f.hl
        rw [sizeLine_eq]; omega
      · have e : (W.hist.map (·.1)).take (i + 1) = (W.hist.map (·.1)).take i ++ [ac] := by
          rw [List.take_succ, List.getElem?_map, hh]; rfl
        rw [e]
        have nt : NoTup H' [D] := fun l hl xs e => by
          rw [List.mem_singleton] at hl
          rw [hl, hys] at e
          cases e
        have sl : SameL [D] H' (upd H' D (.lst (ys ++ [av]))) := SameL.upd (by simp)
        exact (hya.imp fun _ _ q => q.monoL sl nt).app (.one (hav.monoL sl nt))
    · obtain ⟨sq, ys, hys, hya⟩ := q
      have el : (ps.drop 1).length = W.hist.length := by rw [hit1.len, List.length_map]
      rw [el] at hya
      rw [show (W.hist.map (·.1)).take W.hist.length = W.hist.map (·.1) from List.take_of_length_le (by rw [List.length_map]; omega)] at hya
      have s4 := s3.trans sq
      refine ⟨l5, fun ml hml => ?_⟩
      have u5 := same_upd (o := .lst [w1, w2, .int W.cur.left, .str pl, .ref D]) hml
      have s5 := s4.trans u5
      refine ⟨ml, dFound W pl, rfl, .lst (SqL.of upd_same) (.cons (q1'.mono s5).dp (.cons (q2'.mono s5).dp (.cons (.int _) (.cons (.str _) (.cons (.lst (SqL.of (u5 _ _ hys)) (acts_dpAll (hya.imp fun _ _ q => q.mono u5))) .nil))))), gf.sh, gf.hd, Nat.le_trans gf.dp (by decide), gf.len (by decide), ?_⟩
      refine ⟨rfl, _, rfl, ?_⟩
      refine ite2 (fun z => ?_) fun _ => ?_
      · rw [decide_eq_true rfl] at z
        cases z
      generalize upd H' ml (.lst [w1, w2, .int W.cur.left, .str pl, .ref D]) = H5 at s5 ⊢
      refine ⟨l0, fun R hR => ?_⟩
      have hps5 := s5 _ _ hps
      refine ⟨_, rfl, _, rfl, ?_⟩
      have uR := same_upd (o := .lst []) hR
      refine ⟨_, _, rfl, SqL.of (uR _ _ hps5), fun c2 hc2 => ?_⟩
      rw [ec]
      have nRc : R ≠ c2 := ne_none upd_same hc2
      have s6 : Same H5 (upd (upd H5 R (.lst [])) c2 (.lst (ps.drop 1))) := same_upd2 uR hc2
      refine ⟨_, rfl, ⟨_, SqL.of upd_same⟩, ?_⟩
      refine for_list (xs := ps.drop 1) (fun i σ H' => Same H5 H' ∧ H' c2 = some (.lst (ps.drop 1)) ∧ IsRuns H' R (mergeR [] (advR ((W.hist.map (·.1)).take i))) ∧ ∃ u v z, σ = [some (.ref a), some (.ref na), some (.ref pa), some lv, some w1, some w2, some (.int W.cur.left), some (.int W.cur.turn), some (.ref fl), u, v, some (.ref R), z, none, none])
        ⟨s6, upd_same, ⟨[], by rw [upd_ne nRc, upd_same], .nil⟩, _, _, _, rfl⟩ (fun i σ H' _ q => SqL.of q.2.1) (fun i x σ H' hxi q => ?_) (fun σ H' q => ?_)
      · obtain ⟨sq, hc2', hRr, u, v, z, rfl⟩ := q
        obtain ⟨t, y1, av, ac, sx, rfl, ht, hav, hh⟩ := actAt hxi (s5.trans sq)
        have e : (W.hist.map (·.1)).take (i + 1) = (W.hist.map (·.1)).take i ++ [ac] := by
          rw [List.take_succ, List.getElem?_map, hh]; rfl
        have hsm : actSm ac := f.acts ac (List.mem_map.mpr ⟨(ac, sx), List.mem_of_getElem? hh, rfl⟩)
        refine ⟨_, _, rfl, SqT.of ht, rfl, _, _, rfl, _, _, rfl, rfl, ?_⟩
        generalize hrs : mergeR [] (advR ((W.hist.map (·.1)).take i)) = rs at hRr
        have hrl : rs.length < 10000 := by
          have a1 := mergeR_len (advR ((W.hist.map (·.1)).take i)) []
          have a2 := advR_len ((W.hist.map (·.1)).take i)
          have a3 : ((W.hist.map (·.1)).take i).length ≤ (W.hist.map (·.1)).length := List.length_take_le' _ _
          rw [List.length_map] at a3
          rw [List.length_nil, hrs] at a1
          have := f.hl
          omega
        cases ac with
        | undo n => exact hsm.elim
        | goal g =>
          obtain ⟨tt, uu, rfl, htt, _⟩ := hav
          iterate 2 walk_at "r1"
          refine ⟨rfl, ?_⟩
          iterate 1 walk_at "r1"
          refine ⟨sq, hc2', ?_, _, _, _, rfl⟩
          have e2 : advR ((W.hist.map (·.1)).take (i + 1)) = advR ((W.hist.map (·.1)).take i) := by rw [e, advR_snoc]; exact List.append_nil _
          rw [e2, hrs]
          exact hRr
        | adv nm d n =>
          obtain ⟨tt, rfl, htt⟩ := hav
          have hn' : 0 < n := by have := hsm.2.1; omega
          have e2 : mergeR [] (advR ((W.hist.map (·.1)).take (i + 1))) = appRun rs d n := by
            have e3 : advR ((W.hist.map (·.1)).take (i + 1)) = advR ((W.hist.map (·.1)).take i) ++ [(d, n)] := by rw [e, advR_snoc] <;> rfl
            rw [e3, mergeR_snoc, hrs]
          obtain ⟨xsR, hlR, hxR⟩ := hRr
          iterate 2 walk_at "r1"
          refine ⟨rfl, ?_⟩
          iterate 3 walk_at "r1"
          refine ⟨_, rfl, l0, fun p hp => ?_⟩
          have sp1 : Same H' (upd H' p (.lst [])) := same_upd hp
          have fin : ∀ (H2 : Hp) (m : Int) (rs2 : List Run) (D0 : Ends), SameX R H' H2 → IsRuns H2 R rs2 → rs2.length < 10000 → (∀ H'', SameX R H' H'' → IsRuns H'' R (rs2 ++ [(d, m)]) → D0.nx [some (.ref a), some (.ref na), some (.ref pa), some lv, some w1, some w2, some (.int W.cur.left), some (.int W.cur.turn), some (.ref fl), some y1, some (.ref tt), some (.ref R), some (.int m), none, none] H'') →
              tDrop (tBM K "list" rAppend (tVar 11) (tCons (tTup (tCons (tOp (rIxT K) (tVar 10) (tC (.int 2))) (tCons (tVar 12) tNil))) tNil)) D0 [some (.ref a), some (.ref na), some (.ref pa), some lv, some w1, some w2, some (.int W.cur.left), some (.int W.cur.turn), some (.ref fl), some y1, some (.ref tt), some (.ref R), some (.int m), none, none] H2 := by
            intro H2 m rs2 D0 s2' ⟨ys, hy, hys⟩ hz2 hD0
            have htR : tt ≠ R := fun z => by rw [z, hlR] at htt; cases htt
            have htt2 := s2' _ _ htR htt
            refine ⟨_, rfl, .inl ⟨rfl, _, SqL.of hy⟩, ?_⟩
            iterate 3 walk_at "r1"
            refine ⟨l2, fun q hq => ?_⟩
            have nq : R ≠ q := ne_none hy hq
            refine ⟨_, _, _, rfl, rfl, by rw [upd_ne nq]; exact hy, ?_, ?_⟩
            · rw [hys.len, sizeLine_eq]; omega
            · refine hD0 _ ((s2'.trans (SameX.of (same_upd hq))).trans SameX.upd) ⟨_, upd_same, (hys.imp fun _ _ r => (r.mono (same_upd hq)).monoX SameX.upd (by rw [upd_ne nq]; exact hy)).app (.one ⟨q, rfl, ?_⟩)⟩
              rw [upd_ne nq.symm, upd_same]
          have endX : ∀ {H''} {z : Option V}, SameX R H' H'' → IsRuns H'' R (appRun rs d n) → Same H5 H'' ∧ H'' c2 = some (.lst (ps.drop 1)) ∧ IsRuns H'' R (mergeR [] (advR ((W.hist.map (·.1)).take (i + 1)))) ∧ ∃ u v z', [some (.ref a), some (.ref na), some (.ref pa), some lv, some w1, some w2, some (.int W.cur.left), some (.int W.cur.turn), some (.ref fl), some y1, some (.ref tt), some (.ref R), z, none, none] = [some (.ref a), some (.ref na), some (.ref pa), some lv, some w1, some w2, some (.int W.cur.left), some (.int W.cur.turn), some (.ref fl), u, v, some (.ref R), z', none, none] := fun {H'' z} a1 a2 =>
            ⟨fun b o e => a1 b o (ne_none e hR) (sq b o e), a1 _ _ nRc.symm hc2', by rw [e2]; exact a2, _, _, _, rfl⟩
          refine ⟨_, _, (IsRuns.mono ⟨xsR, hlR, hxR⟩ sp1).dp, nil_dp upd_same, runs_shaped rs, nil_shaped, _, rfl, ?_⟩
          rcases List.eq_nil_or_concat rs with er | ⟨rs', ⟨d', m⟩, er⟩
          · rw [er, eqv_nil]
            refine fin _ n [] _ (.of sp1) (by rw [← er]; exact IsRuns.mono ⟨xsR, hlR, hxR⟩ sp1) (by simp) fun H'' a1 a2 => endX a1 (by unfold appRun; rw [if_pos hn', er]; exact a2)
          · rw [List.concat_eq_append] at er
            rw [er] at hxR hrl
            have e0 : decide (rs' ++ [(d', m)] = []) = false := by simp
            rw [er, eqv_nil, e0]
            obtain ⟨us', x', eus, hus', hxr⟩ := hxR.snoc_inv
            obtain ⟨a', rfl, ha'⟩ := hxr
            rw [eus] at hlR hxR
            have ha1 := sp1 _ _ ha'
            have hl1 := sp1 _ _ hlR
            have htt1 := sp1 _ _ htt
            have endY : ∀ H'' , IsRuns H'' R (if d' = d then rs' ++ [(d, n + m)] else rs' ++ [(d', m)] ++ [(d, n)]) → IsRuns H'' R (appRun rs d n) := fun H'' q => by
              rw [er]
              unfold appRun
              rw [if_pos hn', List.getLast?_concat, List.dropLast_concat]
              exact q
            iterate 2 walk_at "r1"
            refine ⟨_, _, _, _, rfl, rfl, SqL.of hl1, atI_last _ _, ?_⟩
            iterate 3 walk_at "r1"
            refine ⟨rfl, _, rfl, ?_⟩
            refine ite2 (fun z => ?_) (fun z => ?_)
            · have ed : d' = d := Dir.t_inj (V.str.inj (of_decide_eq_true z))
              subst ed
              iterate 2 walk_at "r1"
              refine ⟨.inl ⟨rfl, _, SqL.of hl1⟩, _, _, _, rfl, rfl, hl1, last_get _ _, ?_⟩
              rw [List.dropLast_concat]
              have nal : a' ≠ R := fun z => by rw [z, hlR] at ha'; cases ha'
              have ha2 : upd (upd H' p (.lst [])) R (.lst us') a' = some (.tup [.str d'.t, .int m]) := by rw [upd_ne nal]; exact ha1
              refine ⟨_, _, _, _, rfl, rfl, SqT.of ha2, at1, _, _, rfl, rfl, ?_⟩
              have s2x : SameX R H' (upd (upd H' p (.lst [])) R (.lst us')) := (SameX.of sp1).trans SameX.upd
              refine fin _ (n + m) rs' _ s2x ⟨us', upd_same, hus'.imp fun _ _ r => r.monoX s2x hlR⟩ (by simp at hrl; omega) fun H'' a1 a2 => endX a1 (endY H'' (by rw [if_pos rfl]; exact a2))
            · have ed : ¬ d' = d := fun e => z (decide_eq_true (by rw [e]))
              refine fin _ n (rs' ++ [(d', m)]) _ (.of sp1) (IsRuns.mono ⟨_, hlR, hxR⟩ sp1) hrl fun H'' a1 a2 => endX a1 (endY H'' (by rw [if_neg ed]; exact a2))
      · obtain ⟨sq, _, hRr, u, v, z, rfl⟩ := q
        rw [show (W.hist.map (·.1)).take (ps.drop 1).length = W.hist.map (·.1) from List.take_of_length_le (by rw [List.length_map, el]; omega)] at hRr
        have hRr' : IsRuns H' R W.runs := hRr
        have s7 := s5.trans sq
        have gr := gdRuns f
        have h17 := s7 _ _ h1
        refine ⟨_, rfl, _, _, _, rfl, h17, rfl, ?_⟩
        refine ⟨a, LA, LE, W, rfl, hW.mono s7, f.way.rp, f.way.len, fun H8 l8 s8 hl8 hR8 => ?_⟩
        have hR8' : IsRuns H8 l8 W.runs := hR8
        refine ⟨l8, dRuns W.runs, rfl, hR8'.dp, gr.sh, gr.hd, Nat.le_trans gr.dp (by decide), gr.len (by decide), ?_⟩
        refine ⟨_, rfl, R, dRuns W.runs, rfl, (hRr'.mono s8).dp, gr.sh, gr.hd, Nat.le_trans gr.dp (by decide), gr.len (by decide), ?_⟩
        refine ⟨rfl, _, rfl, ?_⟩
        refine ite2 (fun z => ?_) fun _ => ?_
        · rw [decide_eq_true rfl] at z
          cases z
        have s18 := s7.trans s8
        -- the end, for any way that the walker was lost
        have fin : ∀ (lo : Option Int) (H9 : Hp) (u v z : Option V), Same H H9 → (∀ i, lo = some i → i.natAbs < 2 ^ 100) → (statS W ≠ ("lost" : Str) → lo = none) → (statS W = ("lost" : Str) → ∀ m, 0 ≤ m → m ≤ totR W.runs → W.far m → (m = 0 ∨ ¬ W.far (m - 1)) → lo = some (m - 1)) →
            tRet (tOp rEq (tCB (rReprD K) (tCons (tLst (tCons (tMeth (WC K) "status" (spStat K) [] E0 (tVar 0) tNil) (tCons (tMeth (WC K) "lost_at" (spLostAt K) [] E0 (tVar 0) tNil) (tCons (tCB (rLenO (WC K) (spWLen K) E0) (tCons (tVar 0) tNil)) tNil)))) tNil)) (tCB (rReprD K) (tCons (tLst (tCons (tVar 14) (tCons (tVar 13) (tCons (tOp (rI0 fun i j => .int (i - j)) (tCB (fun xs H Q => ∃ p ys, xs = [V.ref p] ∧ (SqL K H p ys ∨ SqT K H p ys) ∧ Q (.int ys.length) H) (tCons (tVar 2) tNil)) (tC (.int 1))) tNil)))) tNil)))
              { nx := fun _ H' => Q .non H', rt := Q } [some (.ref a), some (.ref na), some (.ref pa), some lv, some w1, some w2, some (.int W.cur.left), some (.int W.cur.turn), some (.ref fl), u, v, some (.ref R), z, some (vO lo), some (.str (statS W))] H9 := by
          intro lo H9 u v z s9 hlb hl0 hl1
          have gl := gdLast (W := W) (lo := lo) (n := W.hist.length) hlb (by have := f.hl; omega)
          refine ⟨_, rfl, _, _, _, rfl, s9 _ _ h1, rfl, ?_⟩
          refine ⟨a, LA, LE, W, rfl, hW.mono s9, f.way.pq, fun H10 s10 => ?_⟩
          have s10' := s9.trans s10
          refine ⟨_, rfl, _, _, _, rfl, s10' _ _ h1, rfl, ?_⟩
          have last : ∀ H11, Same H10 H11 → tCons (tCB (rLenO (WC K) (spWLen K) E0) (tCons (tVar 0) tNil)) tNil [some (.ref a), some (.ref na), some (.ref pa), some lv, some w1, some w2, some (.int W.cur.left), some (.int W.cur.turn), some (.ref fl), u, v, some (.ref R), z, some (vO lo), some (.str (statS W))] H11 fun vs H12 =>
              ([.str (statS W), vO lo] ++ vs : List V).length ≤ sizeLine ∧ ∀ p, H12 p = none → rReprD K [.ref p] (upd H12 p (.lst ([.str (statS W), vO lo] ++ vs))) fun x H13 => tCB (rReprD K) (tCons (tLst (tCons (tVar 14) (tCons (tVar 13) (tCons (tOp (rI0 fun i j => .int (i - j)) (tCB (fun xs H Q => ∃ p ys, xs = [V.ref p] ∧ (SqL K H p ys ∨ SqT K H p ys) ∧ Q (.int ys.length) H) (tCons (tVar 2) tNil)) (tC (.int 1))) tNil)))) tNil) [some (.ref a), some (.ref na), some (.ref pa), some lv, some w1, some w2, some (.int W.cur.left), some (.int W.cur.turn), some (.ref fl), u, v, some (.ref R), z, some (vO lo), some (.str (statS W))] H13 fun y H14 => rEq x y H14 Q := by
            intro H11 s11
            have s11' := s10'.trans s11
            refine ⟨_, rfl, a, dx, _, rfl, s11' _ _ h1, ?_⟩
            refine ⟨a, LA, LE, W, rfl, hW.mono s11', W.hist.length, rfl, by have := f.hl; rw [sizeLine_eq]; omega, ?_⟩
            refine ⟨l3, fun p hp => ?_⟩
            have s12 := same_upd2 s11' (o := .lst [.str (statS W), vO lo, .int (W.hist.length : Nat)]) hp
            refine ⟨p, .list [.str (statS W), dO lo, .int (W.hist.length : Nat)], rfl, .lst (SqL.of upd_same) (.cons (.str _) (.cons (vO_dp lo) (.cons (.int _) .nil))), gl.sh, gl.hd, Nat.le_trans gl.dp (by decide), gl.len (by decide), ?_⟩
            refine ⟨_, rfl, _, rfl, _, rfl, _, _, rfl, .inl (SqL.of (s12 _ _ hps)), ?_⟩
            refine ⟨_, _, rfl, rfl, l3, fun p2 hp2 => ?_⟩
            have elen : ((ps.length : Nat) : Int) - 1 = (W.hist.length : Nat) := by omega
            refine ⟨p2, .list [.str (statS W), dO lo, .int (W.hist.length : Nat)], rfl, .lst (SqL.of (xs := [.str (statS W), vO lo, .int (((ps.length : Nat) : Int) - 1)]) upd_same) (.cons (.str _) (.cons (vO_dp lo) (.cons (by rw [elen]; exact .int _) .nil))), gl.sh, gl.hd, Nat.le_trans gl.dp (by decide), gl.len (by decide), ?_⟩
            refine ⟨rfl, ?_⟩
            rw [decide_eq_true rfl]
            exact h _ (same_upd2 s12 hp2)
          refine ⟨a, LA, LE, W, rfl, hW.mono s10', f.way, fun hs H11 s11 => ?_, fun hs H11 m s11 m0 m1 m2 m3 => ?_⟩
          · have e := hl0 hs
            subst e
            exact last H11 s11
          · have e := hl1 hs m m0 m1 m2 m3
            subst e
            exact last H11 s11
        iterate 3 walk_at "r1"
        have ht0 : 0 ≤ totR W.runs := f.way.t0
        have hft : W.far (totR W.runs) ↔ W.cur.left < dist W.cur.st W.cur.gl W.b := by
          unfold Wk.far
          rw [f.way.cur]
          constructor <;> intro h <;> omega
        have hfu : ∀ (k : Nat) (m : Int), 0 ≤ m → m + k ≤ totR W.runs → W.far m → W.far (m + k) := by
          intro k
          induction k with
          | zero => intro m _ _ h; rw [show m + ((0 : Nat) : Int) = m by omega]; exact h
          | succ k ih =>
            intro m m0 m1 h
            have := f.mono (m + k) (by omega) (by omega) (ih m m0 (by omega) h)
            rw [show m + ((k + 1 : Nat) : Int) = m + k + 1 by omega]
            exact this
        have hfle : ∀ m m' : Int, 0 ≤ m → m ≤ m' → m' ≤ totR W.runs → W.far m → W.far m' := by
          intro m m' h0 h1 h2 h3
          have := hfu (m' - m).toNat m h0 (by omega) h3
          rw [show m + ((m' - m).toNat : Int) = m' by omega] at this
          exact this
        refine ⟨a, LA, LE, pa, W, lv, rfl, hW.mono s18, ⟨ps, s18 _ _ hps, hit0.imp fun _ _ q => q.mono s18⟩, hlv.mono s18, f.way, f.tot, fun hall H9 s9 => ?_, fun m m0 m1 fm least H9 s9 => ?_⟩
        · have nf : ¬ W.cur.left < dist W.cur.st W.cur.gl W.b := fun h => hall _ ht0 (Int.le_refl _) (hft.mpr h)
          refine ⟨l2, fun dl hdl => ?_⟩
          have s10 := same_upd2 (s18.trans s9) (o := .lst [.str "underway", .str "lost"]) hdl
          refine ⟨_, rfl, ?_⟩
          refine .inr ⟨false, (by rw [decide_eq_true rfl]; rfl), ?_⟩
          refine ⟨_, _, _, _, rfl, rfl, SqL.of upd_same, at0, ?_⟩
          refine ⟨_, rfl, _, rfl, _, _, (q1'.mono s10).dp, (q2'.mono s10).dp, dP_shaped _, dP_shaped _, _, rfl, ?_⟩
          rw [dP_eqv]
          refine ite2 (fun zz => ?_) fun zz => ?_
          · have e : W.cur.st = W.cur.gl := of_decide_eq_true zz
            have es : statS W = ("arrived" : Str) := if_pos e
            have := fin none _ u v z s10 (fun _ h => by cases h) (fun _ => rfl) (fun h => by rw [es] at h; exact absurd h (by decide))
            rw [es] at this
            exact this
          · have e : ¬ W.cur.st = W.cur.gl := fun e => zz (decide_eq_true e)
            have es : statS W = ("underway" : Str) := (if_neg e).trans (if_neg nf)
            have := fin none _ u v z s10 (fun _ h => by cases h) (fun _ => rfl) (fun h => by rw [es] at h; exact absurd h (by decide))
            rw [es] at this
            exact this
        · have yf : W.cur.left < dist W.cur.st W.cur.gl W.b := hft.mp (hfle m _ m0 m1 (Int.le_refl _) fm)
          have e : ¬ W.cur.st = W.cur.gl := fun e => by
            have := f.zero e
            have := f.l0
            omega
          have es : statS W = ("lost" : Str) := (if_neg e).trans (if_pos yf)
          refine ⟨l2, fun dl hdl => ?_⟩
          have s10 := same_upd2 (s18.trans s9) (o := .lst [.str "underway", .str "lost"]) hdl
          refine ⟨_, rfl, ?_⟩
          refine .inr ⟨true, (by rw [decide_eq_false (fun h => by cases h)]; rfl), ?_⟩
          refine ⟨_, _, _, _, rfl, rfl, SqL.of upd_same, at1, ?_⟩
          refine ⟨_, rfl, _, rfl, _, _, (q1'.mono s10).dp, (q2'.mono s10).dp, dP_shaped _, dP_shaped _, _, rfl, ?_⟩
          rw [dP_eqv]
          refine ite2 (fun zz => absurd (of_decide_eq_true zz) e) fun zz => ?_
          have := fin (some (m - 1)) _ u v z s10 (fun i h => ?_) (fun h => absurd es h) (fun h m' m0' m1' fm' l' => ?_)
          · rw [es] at this
            exact this
          · cases h
            have := f.tot
            have hb : ((m - 1).natAbs) < 1000 := by omega
            exact Nat.lt_trans hb (by decide)
          · congr 1
            rcases Int.lt_trichotomy m m' with c | c | c
            · rcases l' with l' | l'
              · omega
              · exact absurd (hfle m (m' - 1) m0 (by omega) (by omega) fm) l'
            · omega
            · exact absurd fm' (least m' m0' c)
end
end Hs
end

/-! HsStep -/
section
set_option Elab.async false
set_option linter.all false
set_option maxRecDepth 100000
set_option maxHeartbeats 4000000
set_option exponentiation.threshold 2000
/-! one step changes the distance by one at most -/
namespace Hs
open PySem PySem.Spec PyProof.Rows L2
def exU (X Y : Int) (a c : Option Int) : Ext := ⟨iabs X, iabs Y, dep a c, imax Y 0, c⟩
def exD (X Y : Int) (a c : Option Int) : Ext := ⟨iabs X, iabs Y, dep a c, imax (-Y) 0, a⟩
def hiE (X Y : Int) (a c : Option Int) : Ext := if 0 ≤ X then exU X Y a c else exD X Y a c
def loE (X Y : Int) (a c : Option Int) : Ext := if 0 ≤ X then exD X Y a c else exU X Y a c
theorem exOf_hl (X Y S : Int) (a c : Option Int) : exOf X Y S a c = if 0 ≤ S then hiE X Y a c else loE X Y a c := by
  unfold exOf hiE loE exU exD
  by_cases h1 : 0 ≤ S <;> by_cases h2 : 0 ≤ X <;> simp [h1, h2]
/-- the pairs of one are enough for the other -/
theorem reach {hi lo hi' lo' : Ext} {S S' t i j j' : Int} (ok : (if 0 ≤ S then hi else lo).Ok) (f : IsFewest (if 0 ≤ S then hi else lo) (iabs S) j)
    (ok' : (if 0 ≤ S' then hi' else lo').Ok) (f' : IsFewest (if 0 ≤ S' then hi' else lo') (iabs S') j') (e : S = S' + t)
    (r : ∀ v', 0 ≤ v' → v' ≤ j' → ∃ v, 0 ≤ v ∧ v ≤ i ∧ hi'.extent j' v' + t ≤ hi.extent i v ∧ lo'.extent j' v' - t ≤ lo.extent i v)
    (n : 0 ≤ hi'.extent j' 0 ∧ 0 ≤ lo'.extent j' 0) : j ≤ i := by
  obtain ⟨u, u0, u1, u2⟩ := f'.split ok'
  have hS : iabs S = if S < 0 then -S else S := rfl
  have hS' : iabs S' = if S' < 0 then -S' else S' := rfl
  obtain ⟨v, v0, v1, v2, v3⟩ := r u u0 u1
  obtain ⟨w, w0, w1, w2, w3⟩ := r 0 (Int.le_refl _) (by have := f'.1; omega)
  by_cases c : 0 ≤ S
  · rw [if_pos c] at ok f
    rw [hS, if_neg (by omega)] at f
    by_cases c' : 0 ≤ S'
    · rw [if_pos c'] at u2
      rw [hS', if_neg (by omega)] at u2
      exact f.of_split ok v0 v1 (by omega)
    · exact f.of_split ok w0 w1 (by omega)
  · rw [if_neg c] at ok f
    rw [hS, if_pos (by omega)] at f
    by_cases c' : 0 ≤ S'
    · exact f.of_split ok w0 w1 (by omega)
    · rw [if_neg c'] at u2
      rw [hS', if_pos (by omega)] at u2
      exact f.of_split ok v0 v1 (by omega)
/-- one more -/
def S1 (l l' : Option Int) : Prop := (l = none ∧ l' = none) ∨ ∃ k, l = some (k + 1) ∧ l' = some k
theorem cap_S1 {l l' : Option Int} (h : S1 l l') (n : Int) : cap (n + 1) l = cap n l' + 1 := by
  rcases h with ⟨rfl, rfl⟩ | ⟨k, rfl, rfl⟩
  · rfl
  · simp only [cap, imin_def]; split <;> split <;> omega
theorem cap_S1' {l l' : Option Int} (h : S1 l l') (n : Int) : cap n l ≤ cap n l' + 1 := by
  rcases h with ⟨rfl, rfl⟩ | ⟨k, rfl, rfl⟩
  · show n ≤ n + 1; omega
  · simp only [cap, imin_def]; split <;> split <;> omega
theorem xt_nn {w b cl j v : Int} {l d : Option Int} (w0 : 0 ≤ w) (h1 : 0 ≤ cap (b + v) l) (h2 : 0 ≤ cap (cl + v) d) (hv : v ≤ j) : 0 ≤ Ext.extent ⟨w, cl, d, b, l⟩ j v := by
  have a := Int.mul_nonneg w0 h1
  have b := Int.mul_nonneg (show 0 ≤ j - v by omega) h2
  exact Int.add_nonneg a b
/-- the side that the step goes to -/
theorem near_ge {w cl cl' b b' i j v v' : Int} {l l' d : Option Int} (w0 : 0 ≤ w) (hc : cl' + v' ≤ cl + v) (hv : i - v = j - v') (hb : b + v = b' + v' + 1) (hl : S1 l l') (hj : v' ≤ j) :
    Ext.extent ⟨w, cl', d, b', l'⟩ j v' + w ≤ Ext.extent ⟨w, cl, d, b, l⟩ i v := by
  show w * cap (b' + v') l' + (j - v') * cap (cl' + v') d + w ≤ w * cap (b + v) l + (i - v) * cap (cl + v) d
  rw [hv, hb, cap_S1 hl, Int.mul_add, Int.mul_one]
  have := Int.mul_le_mul_of_nonneg_left (cap_mono hc d) (show 0 ≤ j - v' by omega)
  omega
/-- the other side -/
theorem far_ge {w cl cl' b b' i j v v' : Int} {l l' d : Option Int} (w0 : 0 ≤ w) (hc : cl' + v' ≤ cl + v) (hv : i - v = j - v') (hb : b' + v' ≤ b + v) (hl : S1 l' l) (hj : v' ≤ j) :
    Ext.extent ⟨w, cl', d, b', l'⟩ j v' - w ≤ Ext.extent ⟨w, cl, d, b, l⟩ i v := by
  show w * cap (b' + v') l' + (j - v') * cap (cl' + v') d - w ≤ w * cap (b + v) l + (i - v) * cap (cl + v) d
  rw [hv]
  have h1 := Int.mul_le_mul_of_nonneg_left (cap_mono hc d) (show 0 ≤ j - v' by omega)
  have h2 : cap (b' + v') l' ≤ cap (b + v) l + 1 := Int.le_trans (cap_S1' hl _) (by have := cap_mono hb l; omega)
  have h3 := Int.mul_le_mul_of_nonneg_left h2 w0
  rw [Int.mul_add, Int.mul_one] at h3
  omega
/-- a wider one -/
theorem wide_ge {w w' cl b b' j v : Int} {l l' d : Option Int} (hw : w' ≤ w) (same : (b = b' ∧ l = l') ∨ w' = 0) (h1 : 0 ≤ cap (b + v) l) (w0 : 0 ≤ w) :
    Ext.extent ⟨w', cl, d, b', l'⟩ j v ≤ Ext.extent ⟨w, cl, d, b, l⟩ j v := by
  show w' * cap (b' + v) l' + (j - v) * cap (cl + v) d ≤ w * cap (b + v) l + (j - v) * cap (cl + v) d
  rcases same with ⟨rfl, rfl⟩ | rfl
  · have := Int.mul_le_mul_of_nonneg_right hw h1
    omega
  · have := Int.mul_nonneg w0 h1
    omega
/-- one pair more makes good what a wider one had -/
theorem slim_ge {w w' cl b b' j v : Int} {l l' d : Option Int} (hw : w' = w + 1) (same : (b = b' ∧ l = l') ∨ w = 0) (h1 : cap (b' + v) l' ≤ cap (cl + v) d) :
    Ext.extent ⟨w', cl, d, b', l'⟩ j v ≤ Ext.extent ⟨w, cl, d, b, l⟩ (j + 1) v := by
  show w' * cap (b' + v) l' + (j - v) * cap (cl + v) d ≤ w * cap (b + v) l + (j + 1 - v) * cap (cl + v) d
  have e : j + 1 - v = j - v + 1 := by omega
  rw [e, Int.add_mul (j - v), Int.one_mul, hw, Int.add_mul w, Int.one_mul]
  rcases same with ⟨rfl, rfl⟩ | rfl
  · omega
  · rw [Int.zero_mul, Int.zero_mul]; omega
/-- the rooms -/
structure Rm (Y : Int) (a c : Option Int) : Prop where
  a : ∀ k, a = some k → 0 ≤ k ∧ -Y ≤ k
  c : ∀ k, c = some k → 0 ≤ k ∧ Y ≤ k
theorem PQ.rm {p q : P3} {b : Bnd} (o : PQ p q b) : Rm (disp p q).h (below b p.h) (above b p.h) := by
  refine ⟨fun k hk => ?_, fun k hk => ?_⟩
  · unfold below at hk
    cases e : b.lo with
    | none => rw [e] at hk; cases hk
    | some l =>
      rw [e] at hk
      cases hk
      have h1 := Bnd.has_lo o.hp e
      have h2 := Bnd.has_lo o.hq e
      show 0 ≤ p.h - l ∧ -(q.h - p.h) ≤ p.h - l
      omega
  · unfold above at hk
    cases e : b.hi with
    | none => rw [e] at hk; cases hk
    | some l =>
      rw [e] at hk
      cases hk
      have h1 := Bnd.has_hi o.hp e
      have h2 := Bnd.has_hi o.hq e
      show 0 ≤ l - p.h ∧ q.h - p.h ≤ l - p.h
      omega
theorem imax0 (y : Int) : 0 ≤ imax y 0 ∧ imax y 0 ≤ iabs y ∧ imax (-y) 0 ≤ iabs y := by
  have e : iabs y = if y < 0 then -y else y := rfl
  rw [e, imax_def, imax_def]
  split <;> split <;> split <;> omega
theorem iabs_neg (y : Int) : iabs (-y) = iabs y := by
  have e : iabs y = if y < 0 then -y else y := rfl
  have e' : iabs (-y) = if -y < 0 then - -y else -y := rfl
  rw [e, e']
  split <;> split <;> omega
namespace Rm
variable {Y : Int} {a c : Option Int}
theorem capU (r : Rm Y a c) {v : Int} (h : 0 ≤ v) : 0 ≤ cap (imax Y 0 + v) c := cap_nn (by have := (imax0 Y).1; omega) fun k hk => (r.c k hk).1
theorem capD (r : Rm Y a c) {v : Int} (h : 0 ≤ v) : 0 ≤ cap (imax (-Y) 0 + v) a := cap_nn (by have := (imax0 (-Y)).1; omega) fun k hk => (r.a k hk).1
theorem capS (r : Rm Y a c) {v : Int} (h : 0 ≤ v) : 0 ≤ cap (iabs Y + v) (dep a c) := cap_nn (by have := (le_iabs Y).2; omega) fun k hk => by
  cases a with
  | none => cases hk
  | some a => cases c with
    | none => cases hk
    | some c => cases hk; have := r.a _ rfl; have := r.c _ rfl; omega
theorem leU (r : Rm Y a c) (v : Int) : cap (imax Y 0 + v) c ≤ cap (iabs Y + v) (dep a c) := by
  have h := (imax0 Y).2.1
  cases c with
  | none => have e : dep a none = none := by cases a <;> rfl
            rw [e]; show imax Y 0 + v ≤ iabs Y + v; omega
  | some c => cases a with
    | none => have := cap_le (imax Y 0 + v) (some c); show _ ≤ iabs Y + v; omega
    | some a => have := r.a _ rfl; show imin _ c ≤ imin _ (a + c); rw [imin_def, imin_def]; split <;> split <;> omega
theorem leD (r : Rm Y a c) (v : Int) : cap (imax (-Y) 0 + v) a ≤ cap (iabs Y + v) (dep a c) := by
  have h := (imax0 Y).2.2
  cases a with
  | none => show imax (-Y) 0 + v ≤ iabs Y + v; omega
  | some a => cases c with
    | none => have := cap_le (imax (-Y) 0 + v) (some a); show _ ≤ iabs Y + v; omega
    | some c => have := r.c _ rfl; show imin _ a ≤ imin _ (a + c); rw [imin_def, imin_def]; split <;> split <;> omega
theorem nnU (r : Rm Y a c) {X j v : Int} (h : 0 ≤ v) (hj : v ≤ j) : 0 ≤ (exU X Y a c).extent j v := xt_nn (le_iabs X).2 (r.capU h) (r.capS h) hj
theorem nnD (r : Rm Y a c) {X j v : Int} (h : 0 ≤ v) (hj : v ≤ j) : 0 ≤ (exD X Y a c).extent j v := xt_nn (le_iabs X).2 (r.capD h) (r.capS h) hj
theorem nnH (r : Rm Y a c) {X j v : Int} (h : 0 ≤ v) (hj : v ≤ j) : 0 ≤ (hiE X Y a c).extent j v := by unfold hiE; split; exact r.nnU h hj; exact r.nnD h hj
theorem nnL (r : Rm Y a c) {X j v : Int} (h : 0 ≤ v) (hj : v ≤ j) : 0 ≤ (loE X Y a c).extent j v := by unfold loE; split; exact r.nnD h hj; exact r.nnU h hj
/-- a step to the side, nearer -/
theorem sideN (r : Rm Y a c) {X X' j v : Int} (h : 0 ≤ v) (hX : iabs X = iabs X' + 1) (hs : (0 ≤ X ↔ 0 ≤ X') ∨ X' = 0) : (hiE X' Y a c).extent j v ≤ (hiE X Y a c).extent j v ∧ (loE X' Y a c).extent j v ≤ (loE X Y a c).extent j v := by
  have w0 := (le_iabs X).2
  have z : X' = 0 → iabs X' = 0 := fun e => by subst e; rfl
  unfold hiE loE
  by_cases c1 : 0 ≤ X <;> by_cases c2 : 0 ≤ X'
  · simp only [c1, c2, if_true]; exact ⟨wide_ge (by omega) (.inl ⟨rfl, rfl⟩) (r.capU h) w0, wide_ge (by omega) (.inl ⟨rfl, rfl⟩) (r.capD h) w0⟩
  · exfalso; rcases hs with hs | hs <;> omega
  · have z' : iabs X' = 0 := by rcases hs with hs | hs; · omega
                                · exact z hs
    simp only [c1, c2, if_true, if_false]; exact ⟨wide_ge (by omega) (.inr z') (r.capD h) w0, wide_ge (by omega) (.inr z') (r.capU h) w0⟩
  · simp only [c1, c2, if_false]; exact ⟨wide_ge (by omega) (.inl ⟨rfl, rfl⟩) (r.capD h) w0, wide_ge (by omega) (.inl ⟨rfl, rfl⟩) (r.capU h) w0⟩
/-- a step to the side, away -/
theorem sideF (r : Rm Y a c) {X X' j v : Int} (hX : iabs X' = iabs X + 1) (hs : (0 ≤ X ↔ 0 ≤ X') ∨ X = 0) : (hiE X' Y a c).extent j v ≤ (hiE X Y a c).extent (j + 1) v ∧ (loE X' Y a c).extent j v ≤ (loE X Y a c).extent (j + 1) v := by
  have z : X = 0 → iabs X = 0 := fun e => by subst e; rfl
  unfold hiE loE
  by_cases c1 : 0 ≤ X <;> by_cases c2 : 0 ≤ X'
  · simp only [c1, c2, if_true]; exact ⟨slim_ge hX (.inl ⟨rfl, rfl⟩) (r.leU v), slim_ge hX (.inl ⟨rfl, rfl⟩) (r.leD v)⟩
  · have z' : iabs X = 0 := by rcases hs with hs | hs; · omega
                               · exact z hs
    simp only [c1, c2, if_true, if_false]; exact ⟨slim_ge hX (.inr z') (r.leD v), slim_ge hX (.inr z') (r.leU v)⟩
  · exfalso; rcases hs with hs | hs <;> omega
  · simp only [c1, c2, if_false]; exact ⟨slim_ge hX (.inl ⟨rfl, rfl⟩) (r.leD v), slim_ge hX (.inl ⟨rfl, rfl⟩) (r.leU v)⟩
end Rm
theorem dep_S1 {a a' c c' : Option Int} (h1 : S1 a' a) (h2 : S1 c c') : dep a' c' = dep a c := by
  rcases h1 with ⟨rfl, rfl⟩ | ⟨k, rfl, rfl⟩ <;> rcases h2 with ⟨rfl, rfl⟩ | ⟨m, rfl, rfl⟩ <;> first | rfl | skip
  show some (k + 1 + m) = some (k + (m + 1))
  congr 1; omega
/-- a step up -/
theorem up_ge {X Y i j v v' : Int} {a a' c c' : Option Int} (ha : S1 a' a) (hc : S1 c c') (hj : v' ≤ j)
    (h : (1 ≤ Y ∧ i = j ∧ v = v') ∨ (Y ≤ 0 ∧ i = j + 1 ∧ v = v' + 1)) :
    (exU X (Y - 1) a' c').extent j v' + iabs X ≤ (exU X Y a c).extent i v ∧ (exD X (Y - 1) a' c').extent j v' - iabs X ≤ (exD X Y a c).extent i v := by
  have w0 := (le_iabs X).2
  have e1 : iabs Y = if Y < 0 then -Y else Y := rfl
  have e2 : iabs (Y - 1) = if Y - 1 < 0 then -(Y - 1) else Y - 1 := rfl
  have m1 := imax_def Y 0
  have m2 := imax_def (Y - 1) 0
  have m3 := imax_def (-Y) 0
  have m4 := imax_def (-(Y - 1)) 0
  unfold exU exD
  rw [dep_S1 ha hc]
  rcases h with ⟨h0, rfl, rfl⟩ | ⟨h0, rfl, rfl⟩
  · have f1 : iabs Y = Y := by rw [e1]; split <;> omega
    have f2 : iabs (Y - 1) = Y - 1 := by rw [e2]; split <;> omega
    have f3 : imax Y 0 = Y := by rw [m1]; split <;> omega
    have f4 : imax (Y - 1) 0 = Y - 1 := by rw [m2]; split <;> omega
    have f5 : imax (-Y) 0 = 0 := by rw [m3]; split <;> omega
    have f6 : imax (-(Y - 1)) 0 = 0 := by rw [m4]; split <;> omega
    rw [f1, f2, f3, f4, f5, f6]
    exact ⟨near_ge w0 (by omega) (by omega) (by omega) hc hj, far_ge w0 (by omega) (by omega) (by omega) ha hj⟩
  · have f1 : iabs Y = -Y := by rw [e1]; split <;> omega
    have f2 : iabs (Y - 1) = -Y + 1 := by rw [e2]; split <;> omega
    have f3 : imax Y 0 = 0 := by rw [m1]; split <;> omega
    have f4 : imax (Y - 1) 0 = 0 := by rw [m2]; split <;> omega
    have f5 : imax (-Y) 0 = -Y := by rw [m3]; split <;> omega
    have f6 : imax (-(Y - 1)) 0 = -Y + 1 := by rw [m4]; split <;> omega
    rw [f1, f2, f3, f4, f5, f6]
    exact ⟨near_ge w0 (by omega) (by omega) (by omega) hc hj, far_ge w0 (by omega) (by omega) (by omega) ha hj⟩
theorem dep_comm (a c : Option Int) : dep a c = dep c a := by
  cases a <;> cases c <;> first | rfl | (show some _ = some _; congr 1; omega)
theorem exU_flip (X Y : Int) (a c : Option Int) : exU X (-Y) c a = exD X Y a c := by
  unfold exU exD
  rw [iabs_neg, dep_comm]
theorem exD_flip (X Y : Int) (a c : Option Int) : exD X (-Y) c a = exU X Y a c := by
  unfold exU exD
  rw [iabs_neg, dep_comm, Int.neg_neg]
/-- a step down -/
theorem dn_ge {X Y i j v v' : Int} {a a' c c' : Option Int} (ha : S1 a a') (hc : S1 c' c) (hj : v' ≤ j)
    (h : (Y ≤ -1 ∧ i = j ∧ v = v') ∨ (0 ≤ Y ∧ i = j + 1 ∧ v = v' + 1)) :
    (exD X (Y + 1) a' c').extent j v' + iabs X ≤ (exD X Y a c).extent i v ∧ (exU X (Y + 1) a' c').extent j v' - iabs X ≤ (exU X Y a c).extent i v := by
  have := up_ge (X := X) (Y := -Y) (i := i) (j := j) (v := v) (v' := v') hc ha hj (by omega)
  have e : -Y - 1 = -(Y + 1) := by omega
  rw [e, exU_flip, exU_flip, exD_flip, exD_flip] at this
  exact this
/-- the state after one step -/
def step1 (p : P3) (d : Dir) : P3 := moveR p d 1
theorem below_S1 (b : Bnd) (h : Int) : S1 (below b (h + 1)) (below b h) := by
  unfold below
  cases b.lo with
  | none => exact .inl ⟨rfl, rfl⟩
  | some l => exact .inr ⟨h - l, congrArg some (show h + 1 - l = h - l + 1 by omega), rfl⟩
theorem above_S1 (b : Bnd) (h : Int) : S1 (above b h) (above b (h + 1)) := by
  unfold above
  cases b.hi with
  | none => exact .inl ⟨rfl, rfl⟩
  | some l => exact .inr ⟨l - (h + 1), congrArg some (show l - h = l - (h + 1) + 1 by omega), rfl⟩
theorem exPQ_hl (p q : P3) (b : Bnd) : exPQ p q b = if 0 ≤ (disp p q).s then hiE (disp p q).x (disp p q).h (below b p.h) (above b p.h) else loE (disp p q).x (disp p q).h (below b p.h) (above b p.h) := exOf_hl _ _ _ _ _
theorem dist_step {p q : P3} {b : Bnd} {d : Dir} (o : PQ p q b) (o' : PQ (moveR p d 1) q b) : dist p q b ≤ dist (moveR p d 1) q b + 1 := by
  obtain ⟨j, f, e⟩ := o.is
  obtain ⟨j', f', e'⟩ := o'.is
  have ok := o.ok
  have ok' := o'.ok
  have r := o.rm
  have r' := o'.rm
  have j0 := f'.1
  rw [exPQ_hl] at ok ok' f f'
  have n' : 0 ≤ (hiE (disp (moveR p d 1) q).x (disp (moveR p d 1) q).h (below b (moveR p d 1).h) (above b (moveR p d 1).h)).extent j' 0 ∧ 0 ≤ (loE (disp (moveR p d 1) q).x (disp (moveR p d 1) q).h (below b (moveR p d 1).h) (above b (moveR p d 1).h)).extent j' 0 := ⟨r'.nnH (Int.le_refl _) j0, r'.nnL (Int.le_refl _) j0⟩
  clear r'
  rw [e, e']
  have aX : ∀ y : Int, iabs y = if y < 0 then -y else y := fun _ => rfl
  cases d with
  | E =>
    have x1 : (disp (moveR p .E 1) q).x = (disp p q).x - 1 := by show q.x - (p.x + 1) = q.x - p.x - 1; omega
    have h1 : (disp (moveR p .E 1) q).h = (disp p q).h := by show q.h - (p.h + 0) = q.h - p.h; omega
    have h2 : (moveR p .E 1).h = p.h := by show p.h + 0 = p.h; omega
    have s1 : (disp p q).s = (disp (moveR p .E 1) q).s + 0 := by
      show q.s - p.s - p.h * (q.x - p.x) = q.s - (p.s + 0 + p.h * 1) - (p.h + 0) * (q.x - (p.x + 1)) + 0
      have z : q.x - (p.x + 1) = (q.x - p.x) - 1 := by omega
      rw [z, Int.add_zero p.h, Int.mul_sub p.h (q.x - p.x) 1, Int.mul_one]; omega
    rw [h1, h2, x1] at ok' f' n'
    rw [h1, x1]
    generalize (disp (moveR p .E 1) q).s = S' at *
    generalize (disp p q).s = S at *
    generalize (disp p q).x = X at *
    generalize (disp p q).h = Y at *
    by_cases c : 1 ≤ X
    · have k1 : iabs X = iabs (X - 1) + 1 := by rw [aX, aX]; split <;> split <;> omega
      have := reach (i := j') ok f ok' f' s1 (fun v h0 h1 => by
        have := r.sideN (j := j') h0 k1 (.inl (by omega))
        exact ⟨v, h0, h1, by omega, by omega⟩) n'
      omega
    · have k1 : iabs (X - 1) = iabs X + 1 := by rw [aX, aX]; split <;> split <;> omega
      have := reach (i := j' + 1) ok f ok' f' s1 (fun v h0 h1 => by
        have := r.sideF (j := j') (v := v) k1 (by omega)
        exact ⟨v, h0, by omega, by omega, by omega⟩) n'
      omega
  | W =>
    have x1 : (disp (moveR p .W 1) q).x = (disp p q).x + 1 := by show q.x - (p.x + -1) = q.x - p.x + 1; omega
    have h1 : (disp (moveR p .W 1) q).h = (disp p q).h := by show q.h - (p.h + 0) = q.h - p.h; omega
    have h2 : (moveR p .W 1).h = p.h := by show p.h + 0 = p.h; omega
    have s1 : (disp p q).s = (disp (moveR p .W 1) q).s + 0 := by
      show q.s - p.s - p.h * (q.x - p.x) = q.s - (p.s + 0 + p.h * -1) - (p.h + 0) * (q.x - (p.x + -1)) + 0
      have z : q.x - (p.x + -1) = (q.x - p.x) + 1 := by omega
      rw [z, Int.add_zero p.h, Int.mul_add p.h (q.x - p.x) 1, Int.mul_one, Int.mul_neg, Int.mul_one]; omega
    rw [h1, h2, x1] at ok' f' n'
    rw [h1, x1]
    generalize (disp (moveR p .W 1) q).s = S' at *
    generalize (disp p q).s = S at *
    generalize (disp p q).x = X at *
    generalize (disp p q).h = Y at *
    by_cases c : X ≤ -1
    · have k1 : iabs X = iabs (X + 1) + 1 := by rw [aX, aX]; split <;> split <;> omega
      have := reach (i := j') ok f ok' f' s1 (fun v h0 h1 => by
        have := r.sideN (j := j') h0 k1 (by omega)
        exact ⟨v, h0, h1, by omega, by omega⟩) n'
      omega
    · have k1 : iabs (X + 1) = iabs X + 1 := by rw [aX, aX]; split <;> split <;> omega
      have := reach (i := j' + 1) ok f ok' f' s1 (fun v h0 h1 => by
        have := r.sideF (j := j') (v := v) k1 (by omega)
        exact ⟨v, h0, by omega, by omega, by omega⟩) n'
      omega
  | U =>
    have x1 : (disp (moveR p .U 1) q).x = (disp p q).x := by show q.x - (p.x + 0) = q.x - p.x; omega
    have h1 : (disp (moveR p .U 1) q).h = (disp p q).h - 1 := by show q.h - (p.h + 1) = q.h - p.h - 1; omega
    have h2 : (moveR p .U 1).h = p.h + 1 := rfl
    have s1 : (disp p q).s = (disp (moveR p .U 1) q).s + (disp p q).x := by
      show q.s - p.s - p.h * (q.x - p.x) = q.s - (p.s + 0 + p.h * 0) - (p.h + 1) * (q.x - (p.x + 0)) + (q.x - p.x)
      have z : q.x - (p.x + 0) = (q.x - p.x) := by omega
      rw [z, Int.add_mul p.h 1, Int.one_mul, Int.mul_zero]; omega
    rw [h1, h2, x1] at ok' f' n'
    rw [h1, x1]
    have ra := below_S1 b p.h
    have rc := above_S1 b p.h
    generalize (disp (moveR p .U 1) q).s = S' at *
    generalize (disp p q).s = S at *
    generalize (disp p q).x = X at *
    generalize (disp p q).h = Y at *
    have ge : ∀ i v v', v' ≤ j' → ((1 ≤ Y ∧ i = j' ∧ v = v') ∨ (Y ≤ 0 ∧ i = j' + 1 ∧ v = v' + 1)) →
        (hiE X (Y - 1) (below b (p.h + 1)) (above b (p.h + 1))).extent j' v' + X ≤ (hiE X Y (below b p.h) (above b p.h)).extent i v ∧ (loE X (Y - 1) (below b (p.h + 1)) (above b (p.h + 1))).extent j' v' - X ≤ (loE X Y (below b p.h) (above b p.h)).extent i v := by
      intro i v v' hj h
      have g := up_ge (X := X) ra rc hj h
      have := aX X
      unfold hiE loE
      by_cases c : 0 ≤ X
      · simp only [c, if_true]; rw [if_neg (by omega)] at this; omega
      · simp only [c, if_false]; rw [if_pos (by omega)] at this; omega
    by_cases c : 1 ≤ Y
    · have k1 : iabs Y = iabs (Y - 1) + 1 := by rw [aX, aX]; split <;> split <;> omega
      have := reach (i := j') ok f ok' f' s1 (fun v h0 h1 => ⟨v, h0, h1, ge _ _ _ h1 (.inl ⟨c, rfl, rfl⟩)⟩) n'
      omega
    · have k1 : iabs (Y - 1) = iabs Y + 1 := by rw [aX, aX]; split <;> split <;> omega
      have := reach (i := j' + 1) ok f ok' f' s1 (fun v h0 h1 => ⟨v + 1, by omega, by omega, ge _ _ _ h1 (.inr ⟨by omega, rfl, rfl⟩)⟩) n'
      omega
  | D =>
    have x1 : (disp (moveR p .D 1) q).x = (disp p q).x := by show q.x - (p.x + 0) = q.x - p.x; omega
    have h1 : (disp (moveR p .D 1) q).h = (disp p q).h + 1 := by show q.h - (p.h + -1) = q.h - p.h + 1; omega
    have h2 : (moveR p .D 1).h = p.h - 1 := rfl
    have s1 : (disp p q).s = (disp (moveR p .D 1) q).s + -(disp p q).x := by
      show q.s - p.s - p.h * (q.x - p.x) = q.s - (p.s + 0 + p.h * 0) - (p.h + -1) * (q.x - (p.x + 0)) + -(q.x - p.x)
      have z : q.x - (p.x + 0) = (q.x - p.x) := by omega
      rw [z, Int.add_mul p.h (-1), Int.neg_mul, Int.one_mul, Int.mul_zero]; omega
    rw [h1, h2, x1] at ok' f' n'
    rw [h1, x1]
    have ra := below_S1 b (p.h - 1)
    have rc := above_S1 b (p.h - 1)
    rw [show p.h - 1 + 1 = p.h by omega] at ra rc
    generalize (disp (moveR p .D 1) q).s = S' at *
    generalize (disp p q).s = S at *
    generalize (disp p q).x = X at *
    generalize (disp p q).h = Y at *
    have ge : ∀ i v v', v' ≤ j' → ((Y ≤ -1 ∧ i = j' ∧ v = v') ∨ (0 ≤ Y ∧ i = j' + 1 ∧ v = v' + 1)) →
        (hiE X (Y + 1) (below b (p.h - 1)) (above b (p.h - 1))).extent j' v' + -X ≤ (hiE X Y (below b p.h) (above b p.h)).extent i v ∧ (loE X (Y + 1) (below b (p.h - 1)) (above b (p.h - 1))).extent j' v' - -X ≤ (loE X Y (below b p.h) (above b p.h)).extent i v := by
      intro i v v' hj h
      have g := dn_ge (X := X) ra rc hj h
      have := aX X
      unfold hiE loE
      by_cases c : 0 ≤ X
      · simp only [c, if_true]; rw [if_neg (by omega)] at this; omega
      · simp only [c, if_false]; rw [if_pos (by omega)] at this; omega
    by_cases c : Y ≤ -1
    · have k1 : iabs Y = iabs (Y + 1) + 1 := by rw [aX, aX]; split <;> split <;> omega
      have := reach (i := j') ok f ok' f' s1 (fun v h0 h1 => ⟨v, h0, h1, ge _ _ _ h1 (.inl ⟨c, rfl, rfl⟩)⟩) n'
      omega
    · have k1 : iabs (Y + 1) = iabs Y + 1 := by rw [aX, aX]; split <;> split <;> omega
      have := reach (i := j' + 1) ok f ok' f' s1 (fun v h0 h1 => ⟨v + 1, by omega, by omega, ge _ _ _ h1 (.inr ⟨by omega, rfl, rfl⟩)⟩) n'
      omega
/-- at the goal -/
theorem dist_self {p : P3} {b : Bnd} (o : PQ p p b) : dist p p b = 0 := by
  refine o.eq ⟨0, ?_, ?_⟩
  · have e : (disp p p).s = 0 := by show p.s - p.s - p.h * (p.x - p.x) = 0; rw [Int.sub_self, Int.sub_self, Int.mul_zero]; rfl
    rw [e]
    refine ⟨Int.le_refl _, ?_, fun h => absurd h (Int.lt_irrefl _)⟩
    refine Int.le_trans ?_ (greatest_ge o.ok (j := 0) (Int.le_refl _) (v := 0) (Int.le_refl _) (Int.le_refl _))
    rw [exPQ_hl]
    have r := o.rm
    split
    · exact r.nnH (Int.le_refl _) (Int.le_refl _)
    · exact r.nnL (Int.le_refl _) (Int.le_refl _)
  · show 0 = iabs (p.x - p.x) + iabs (p.h - p.h) + 2 * 0
    rw [Int.sub_self, Int.sub_self]; rfl
end Hs
end

/-! HsHist -/
section
set_option Elab.async false
set_option linter.all false
set_option maxRecDepth 100000
set_option maxHeartbeats 4000000
set_option exponentiation.threshold 2000
/-! the histories that the law plays -/
namespace Hs
open PySem PySem.Spec PyProof.Rows L2
def stp : List Run → List Dir
  | [] => []
  | r :: rs => List.replicate r.2.toNat r.1 ++ stp rs
def walkD (p : P3) (ds : List Dir) : P3 := ds.foldl (fun p d => moveR p d 1) p
def Nn (rs : List Run) : Prop := ∀ r ∈ rs, 0 ≤ r.2
theorem Nn.of {rs : List Run} (h : ∀ r ∈ rs, 0 < r.2) : Nn rs := fun r hr => Int.le_of_lt (h r hr)
theorem Nn.cons {r : Run} {rs : List Run} (h : Nn (r :: rs)) : 0 ≤ r.2 ∧ Nn rs := ⟨h r (List.mem_cons_self ..), fun x hx => h x (List.mem_cons_of_mem _ hx)⟩
theorem stp_app : ∀ (a b : List Run), stp (a ++ b) = stp a ++ stp b
  | [], b => rfl
  | r :: a, b => by show _ ++ stp (a ++ b) = (_ ++ stp a) ++ stp b; rw [stp_app a b, List.append_assoc]
theorem walkD_app (p : P3) (a b : List Dir) : walkD p (a ++ b) = walkD (walkD p a) b := by unfold walkD; rw [List.foldl_append]
theorem stp_run {rs : List Run} (h : Nn rs) (d : Dir) (n : Int) : stp (appRun rs d n) = stp rs ++ List.replicate n.toNat d := by
  unfold appRun
  by_cases c : 0 < n
  · rw [if_pos c]
    rcases List.eq_nil_or_concat rs with rfl | ⟨L, ⟨d', m⟩, rfl⟩
    · show List.replicate n.toNat d ++ [] = [] ++ _
      rw [List.append_nil, List.nil_append]
    · rw [List.concat_eq_append] at h ⊢
      have hm : 0 ≤ m := h (d', m) (List.mem_append_right _ (List.mem_singleton.mpr rfl))
      rw [List.getLast?_concat]
      show stp (if d' = d then (L ++ [(d', m)]).dropLast ++ [(d, n + m)] else (L ++ [(d', m)]) ++ [(d, n)]) = _
      by_cases e : d' = d
      · subst e
        rw [if_pos rfl, List.dropLast_concat, stp_app, stp_app]
        show stp L ++ (List.replicate (n + m).toNat d' ++ []) = stp L ++ (List.replicate m.toNat d' ++ []) ++ _
        rw [List.append_nil, List.append_nil, List.append_assoc, List.replicate_append_replicate]
        congr 2
        omega
      · rw [if_neg e, stp_app _ [(d, n)]]
        show _ ++ (List.replicate n.toNat d ++ []) = _
        rw [List.append_nil]
  · rw [if_neg c]
    have : n.toNat = 0 := by omega
    rw [this, List.replicate_zero, List.append_nil]
theorem Nn.run {rs : List Run} (h : ∀ r ∈ rs, 0 < r.2) (d : Dir) (n : Int) : ∀ r ∈ appRun rs d n, 0 < r.2 := appRun_pos h
theorem stp_merge : ∀ (rs acc : List Run), (∀ r ∈ acc, 0 < r.2) → stp (mergeR acc rs) = stp acc ++ stp rs
  | [], acc, h => by show stp acc = stp acc ++ []; rw [List.append_nil]
  | (d, n) :: rs, acc, h => by
    show stp (mergeR (appRun acc d n) rs) = stp acc ++ (List.replicate n.toNat d ++ stp rs)
    rw [stp_merge rs _ (appRun_pos h), stp_run (Nn.of h), List.append_assoc]
theorem stp_first : ∀ (rs acc : List Run) (k : Int), 0 ≤ k → Nn rs → (∀ r ∈ acc, 0 < r.2) → stp (firstR acc rs k) = stp acc ++ (stp rs).take k.toNat
  | [], acc, k, _, _, h => by show stp acc = stp acc ++ List.take _ []; rw [List.take_nil, List.append_nil]
  | (d, n) :: rs, acc, k, hk, hn, h => by
    obtain ⟨n0, hn'⟩ := hn.cons
    have n0' : 0 ≤ n := n0
    have ei := imin_def n k
    show stp (firstR (appRun acc d (imin n k)) rs (k - imin n k)) = stp acc ++ (List.replicate n.toNat d ++ stp rs).take k.toNat
    rw [stp_first rs _ _ (by rw [ei]; split <;> omega) hn' (appRun_pos h), stp_run (Nn.of h), List.append_assoc, List.take_append, List.take_replicate, List.length_replicate]
    congr 3
    · rw [ei]; split <;> omega
    · rw [ei]; split <;> omega
theorem first_pos : ∀ (rs acc : List Run) (k : Int), (∀ r ∈ acc, 0 < r.2) → ∀ r ∈ firstR acc rs k, 0 < r.2
  | [], acc, k, h => h
  | (d, n) :: rs, acc, k, h => first_pos rs _ _ (appRun_pos h)
theorem moveR_0 (p : P3) (d : Dir) : moveR p d 0 = p := by
  cases p
  cases d <;> simp [moveR]
theorem moveR_S (p : P3) (d : Dir) (n : Int) : moveR p d (n + 1) = moveR (moveR p d 1) d n := by
  cases p with
  | mk x h s =>
    cases d
    · show P3.mk (x + (n + 1)) (h + 0) (s + 0 + h * (n + 1)) = P3.mk (x + 1 + n) (h + 0 + 0) (s + 0 + h * 1 + 0 + (h + 0) * n)
      rw [Int.add_zero h, Int.add_zero h, Int.mul_add, Int.mul_one]; congr 1 <;> omega
    · show P3.mk (x + -(n + 1)) (h + 0) (s + 0 + h * -(n + 1)) = P3.mk (x + -1 + -n) (h + 0 + 0) (s + 0 + h * -1 + 0 + (h + 0) * -n)
      rw [Int.add_zero h, Int.add_zero h, Int.neg_add, Int.mul_add]; congr 1 <;> omega
    · show P3.mk (x + 0) (h + (n + 1)) (s + 0 + h * 0) = P3.mk (x + 0 + 0) (h + 1 + n) (s + 0 + h * 0 + 0 + (h + 1) * 0)
      rw [Int.mul_zero, Int.mul_zero]; congr 1 <;> omega
    · show P3.mk (x + 0) (h + -(n + 1)) (s + 0 + h * 0) = P3.mk (x + 0 + 0) (h + -1 + -n) (s + 0 + h * 0 + 0 + (h + -1) * 0)
      rw [Int.mul_zero, Int.mul_zero]; congr 1 <;> omega
theorem moveR_rep (d : Dir) : ∀ (n : Nat) (p : P3), moveR p d n = walkD p (List.replicate n d)
  | 0, p => moveR_0 p d
  | n + 1, p => by
    show moveR p d ((n + 1 : Nat) : Int) = walkD (moveR p d 1) (List.replicate n d)
    rw [← moveR_rep d n, ← moveR_S] <;> rfl
theorem afterR_walk : ∀ (rs : List Run) (p : P3), Nn rs → afterR p rs = walkD p (stp rs)
  | [], p, _ => rfl
  | (d, n) :: rs, p, h => by
    obtain ⟨n0, h'⟩ := h.cons
    have n0' : 0 ≤ n := n0
    show afterR (moveR p d n) rs = walkD p (List.replicate n.toNat d ++ stp rs)
    rw [walkD_app, ← moveR_rep, Int.toNat_of_nonneg n0', afterR_walk rs _ h']
theorem totR_cons (r : Run) (rs : List Run) : totR (r :: rs) = r.2 + totR rs := by unfold totR; rw [List.map_cons, List.sum_cons]
theorem totR_stp : ∀ (rs : List Run), Nn rs → totR rs = (stp rs).length
  | [], _ => rfl
  | (d, n) :: rs, h => by
    obtain ⟨n0, h'⟩ := h.cons
    have n0' : 0 ≤ n := n0
    rw [totR_cons, totR_stp rs h']
    show n + _ = ((List.replicate n.toNat d ++ stp rs).length : Nat)
    rw [List.length_append, List.length_replicate]
    omega
/-! ### how far the numbers grow -/
def big : Nat := 2 ^ 110
structure Gr (k : Nat) (p : P3) : Prop where
  x : p.x.natAbs ≤ big + k
  h : p.h.natAbs ≤ big + k
  s : p.s.natAbs ≤ big + k * (2 * big)
theorem Gr.of {p : P3} (h : WSm p) : Gr 0 p := by
  have h1 : p.x.natAbs < big := h.x
  have h2 : p.h.natAbs < big := h.h
  have h3 : p.s.natAbs < big := h.s
  exact ⟨by omega, by omega, by omega⟩
theorem big_le : 1000 ≤ big := by unfold big; decide
theorem Gr.step {k : Nat} {p : P3} (g : Gr k p) (hk : k ≤ 1000) (d : Dir) : Gr (k + 1) (moveR p d 1) := by
  have g1 := g.x
  have g2 := g.h
  have g3 := g.s
  have hb := big_le
  have e : (k + 1) * (2 * big) = k * (2 * big) + 2 * big := Nat.succ_mul _ _
  cases d
  · refine ⟨?_, ?_, ?_⟩
    · show (p.x + 1).natAbs ≤ _; generalize big = B at *; omega
    · show (p.h + 0).natAbs ≤ _; generalize big = B at *; omega
    · show (p.s + 0 + p.h * 1).natAbs ≤ _
      rw [e, Int.mul_one]
      generalize k * (2 * big) = M at *; generalize big = B at *; omega
  · refine ⟨?_, ?_, ?_⟩
    · show (p.x + -1).natAbs ≤ _; generalize big = B at *; omega
    · show (p.h + 0).natAbs ≤ _; generalize big = B at *; omega
    · show (p.s + 0 + p.h * -1).natAbs ≤ _
      rw [e, Int.mul_neg, Int.mul_one]
      generalize k * (2 * big) = M at *; generalize big = B at *; omega
  · refine ⟨?_, ?_, ?_⟩
    · show (p.x + 0).natAbs ≤ _; generalize big = B at *; omega
    · show (p.h + 1).natAbs ≤ _; generalize big = B at *; omega
    · show (p.s + 0 + p.h * 0).natAbs ≤ _
      rw [e, Int.mul_zero]
      generalize k * (2 * big) = M at *; generalize big = B at *; omega
  · refine ⟨?_, ?_, ?_⟩
    · show (p.x + 0).natAbs ≤ _; generalize big = B at *; omega
    · show (p.h + -1).natAbs ≤ _; generalize big = B at *; omega
    · show (p.s + 0 + p.h * 0).natAbs ≤ _
      rw [e, Int.mul_zero]
      generalize k * (2 * big) = M at *; generalize big = B at *; omega
theorem Gr.walk : ∀ (ds : List Dir) {k : Nat} {p : P3}, Gr k p → k + ds.length ≤ 1000 → Gr (k + ds.length) (walkD p ds)
  | [], k, p, g, _ => g
  | d :: ds, k, p, g, h => by
    rw [List.length_cons] at h
    have := Gr.walk ds (g.step (by omega) d) (by omega)
    rw [List.length_cons, show k + (ds.length + 1) = k + 1 + ds.length by omega]
    exact this
theorem Gr.sm {k : Nat} {p : P3} (g : Gr k p) (hk : k ≤ 1000) : p.Sm := by
  have e1 : big + 1000 < 2 ^ 200 := by unfold big; decide
  have e2 : big + 1000 * (2 * big) < 2 ^ 600 := by unfold big; decide
  have m : k * (2 * big) ≤ 1000 * (2 * big) := Nat.mul_le_mul_right _ hk
  exact ⟨Nat.lt_of_le_of_lt g.x (Nat.lt_of_le_of_lt (Nat.add_le_add_left hk _) e1), Nat.lt_of_le_of_lt g.h (Nat.lt_of_le_of_lt (Nat.add_le_add_left hk _) e1), Nat.lt_of_le_of_lt g.s (Nat.lt_of_le_of_lt (Nat.add_le_add_left m _) e2)⟩
theorem Gr.goal {k : Nat} {p g : P3} (r : Gr k p) (hk : k ≤ 1000) {dx dh e : Int} (h1 : -2 ≤ dx ∧ dx ≤ 2) (h2 : -2 ≤ dh ∧ dh ≤ 2) (h3 : 0 ≤ e ∧ e < 9) (hg : g = ⟨p.x + dx, p.h + dh, p.s + p.h * dx + e⟩) : g.Sm := by
  subst hg
  have e1 : big + 1000 + 2 < 2 ^ 200 := by unfold big; decide
  have e2 : big + 1000 * (2 * big) + (big + 1000) * 2 + 9 < 2 ^ 600 := by unfold big; decide
  have m : k * (2 * big) ≤ 1000 * (2 * big) := Nat.mul_le_mul_right _ hk
  have r1 := r.x
  have r2 := r.h
  have r3 := r.s
  have m2 : (p.h * dx).natAbs ≤ (big + 1000) * 2 := by
    rw [Int.natAbs_mul]
    exact Nat.mul_le_mul (by omega) (by omega)
  refine ⟨?_, ?_, ?_⟩
  · show (p.x + dx).natAbs < _
    refine Nat.lt_of_le_of_lt ?_ e1
    generalize big = B at *; omega
  · show (p.h + dh).natAbs < _
    refine Nat.lt_of_le_of_lt ?_ e1
    generalize big = B at *; omega
  · show (p.s + p.h * dx + e).natAbs < _
    refine Nat.lt_of_le_of_lt ?_ e2
    generalize p.h * dx = Z at *
    generalize (big + 1000) * 2 = C at *
    generalize 1000 * (2 * big) = D at *
    generalize k * (2 * big) = E at *
    generalize big = B at *
    omega
theorem okA_of : ∀ (rs : List Run) {k : Nat} {p : P3}, Gr k p → Nn rs → k + (stp rs).length ≤ 1000 → okA p rs
  | [], _, _, _, _, _ => trivial
  | (d, n) :: rs, k, p, g, hn, hl => by
    obtain ⟨n0, hn'⟩ := hn.cons
    have n0' : 0 ≤ n := n0
    have e : stp ((d, n) :: rs) = List.replicate n.toNat d ++ stp rs := rfl
    rw [e, List.length_append, List.length_replicate] at hl
    refine ⟨wide_mul (b := 10) (g.sm (by omega)).h ?_ (by decide) (by decide) (by decide), ?_⟩
    · cases d <;> simp only [riseR] <;> omega
    · have g' := Gr.walk (List.replicate n.toNat d) g (by rw [List.length_replicate]; omega)
      rw [← moveR_rep, Int.toNat_of_nonneg n0', List.length_replicate] at g'
      exact okA_of rs g' hn' (by omega)
/-! ### the histories -/
inductive Good (b : Bnd) (ns : List Str) (s0 : Sit) : List (Act × Sit) → Prop
  | nil : Good b ns s0 []
  | adv {h : List (Act × Sit)} {nm : Str} {d : Dir} {n : Int} {j : Nat} : Good b ns s0 h → ns[j]? = some nm → 1 ≤ n → n ≤ 4 →
      b.has ((Wk.mk b ns s0 h).cur.st.h + (riseR d n).h) = true → n ≤ (Wk.mk b ns s0 h).cur.left → Good b ns s0 (h ++ [(.adv nm d n, advSit ⟨b, ns, s0, h⟩ d n)])
  | goal {h : List (Act × Sit)} {g : P3} : Good b ns s0 h → actG (Wk.mk b ns s0 h).cur (.goal g) → b.has g.h = true →
      Good b ns s0 (h ++ [(.goal g, ⟨(Wk.mk b ns s0 h).cur.st, g, (Wk.mk b ns s0 h).cur.left, (Wk.mk b ns s0 h).cur.turn⟩)])
theorem Good.take {b : Bnd} {ns : List Str} {s0 : Sit} {h : List (Act × Sit)} (g : Good b ns s0 h) (i : Nat) : Good b ns s0 (h.take i) := by
  induction g with
  | nil => rw [List.take_nil]; exact .nil
  | @adv h nm d n j g0 h1 h2 h3 h4 h5 ih =>
    by_cases c : i ≤ h.length
    · rw [List.take_append_of_le_length c]; exact ih
    · rw [List.take_of_length_le (by rw [List.length_append, List.length_singleton]; omega)]
      exact .adv g0 h1 h2 h3 h4 h5
  | @goal h g g0 h1 h2 ih =>
    by_cases c : i ≤ h.length
    · rw [List.take_append_of_le_length c]; exact ih
    · rw [List.take_of_length_le (by rw [List.length_append, List.length_singleton]; omega)]
      exact .goal g0 h1 h2
theorem cur_snoc (b : Bnd) (ns : List Str) (s0 : Sit) (h : List (Act × Sit)) (x : Act) (s : Sit) : (Wk.mk b ns s0 (h ++ [(x, s)])).cur = s := by
  unfold Wk.cur
  rw [List.getLast?_concat] <;> rfl
structure Fst (b : Bnd) (ns : List Str) (s0 : Sit) : Prop where
  two : b.Two
  nok : NamesOk ns
  t0 : s0.turn = 0
  l0 : 0 ≤ s0.left
  l1 : s0.left ≤ 30
  st : WSm s0.st
  gl : WSm s0.gl
  hs : b.has s0.st.h = true
  hg : b.has s0.gl.h = true
abbrev dsOf (h : List (Act × Sit)) : List Dir := stp (advR (h.map (·.1)))
structure Fc (b : Bnd) (ns : List Str) (s0 : Sit) (h : List (Act × Sit)) : Prop where
  pos : ∀ r ∈ advR (h.map (·.1)), 0 < r.2
  left : (Wk.mk b ns s0 h).cur.left = s0.left - (dsOf h).length
  l0 : 0 ≤ (Wk.mk b ns s0 h).cur.left
  st : (Wk.mk b ns s0 h).cur.st = walkD s0.st (dsOf h)
  hs : ∀ i, b.has (walkD s0.st ((dsOf h).take i)).h = true
  hg : b.has (Wk.mk b ns s0 h).cur.gl.h = true
  gl : (Wk.mk b ns s0 h).cur.gl.Sm
  turn : ∃ j : Nat, (Wk.mk b ns s0 h).cur.turn = j ∧ j < ns.length
  acts : ∀ x ∈ h.map (·.1), actSm x
theorem walk_rep_h (d : Dir) (n : Nat) (p : P3) : (walkD p (List.replicate n d)).h = p.h + (riseR d n).h := by
  rw [← moveR_rep, moveR_eq]
theorem Fc.of {b : Bnd} {ns : List Str} {s0 : Sit} {h : List (Act × Sit)} (f : Fst b ns s0) (g : Good b ns s0 h) : Fc b ns s0 h := by
  induction g with
  | nil =>
    refine ⟨fun r hr => (by cases hr), ?_, f.l0, rfl, fun i => ?_, f.hg, ?_, ⟨0, f.t0, f.nok.n1⟩, fun x hx => (by cases hx)⟩
    · show s0.left = s0.left - ((0 : Nat) : Int); omega
    · show b.has (walkD s0.st (List.take i [])).h = true
      rw [List.take_nil]; exact f.hs
    · exact (Gr.of f.gl).sm (by omega)
  | @adv h nm d n j g0 h1 h2 h3 h4 h5 ih =>
    have ea : advR ((h ++ [(Act.adv nm d n, advSit ⟨b, ns, s0, h⟩ d n)]).map (·.1)) = advR (h.map (·.1)) ++ [(d, n)] := by
      rw [List.map_append, List.map_singleton, advR_snoc] <;> rfl
    have ed : dsOf (h ++ [(Act.adv nm d n, advSit ⟨b, ns, s0, h⟩ d n)]) = dsOf h ++ List.replicate n.toNat d := by
      show stp _ = _
      rw [ea, stp_app]
      show _ ++ (List.replicate n.toNat d ++ []) = _
      rw [List.append_nil]
    have n0 : ((n.toNat : Nat) : Int) = n := Int.toNat_of_nonneg (by omega)
    obtain ⟨j', hj', hj2⟩ := ih.turn
    constructor
    · rw [ea]
      intro r hr
      rcases List.mem_append.mp hr with q | q
      · exact ih.pos r q
      · rw [List.mem_singleton] at q; subst q; show 0 < n; omega
    · rw [ed, cur_snoc, List.length_append, List.length_replicate]
      show (Wk.mk b ns s0 h).cur.left - n = _
      have := ih.left
      omega
    · rw [cur_snoc]
      show 0 ≤ (Wk.mk b ns s0 h).cur.left - n
      omega
    · rw [ed, cur_snoc, walkD_app, ← moveR_rep, n0, ← ih.st] <;> rfl
    · intro i
      rw [ed, List.take_append, walkD_app]
      by_cases c : i ≤ (dsOf h).length
      · rw [show i - (dsOf h).length = 0 by omega, List.take_zero]
        exact ih.hs i
      · rw [List.take_of_length_le (by omega), ← ih.st, List.take_replicate, walk_rep_h]
        have k0 := ih.hs (dsOf h).length
        rw [List.take_length, ← ih.st] at k0
        generalize (Wk.mk b ns s0 h).cur.st.h = y at *
        have mn : min (i - (dsOf h).length) n.toNat ≤ n.toNat := Nat.min_le_right _ _
        generalize min (i - (dsOf h).length) n.toNat = m at *
        refine Bnd.has_of (fun l hl => ?_) fun k hk => ?_
        · have a1 := Bnd.has_lo k0 hl
          have a2 := Bnd.has_lo h4 hl
          cases d <;> simp only [riseR] at a2 ⊢ <;> omega
        · have a1 := Bnd.has_hi k0 hk
          have a2 := Bnd.has_hi h4 hk
          cases d <;> simp only [riseR] at a2 ⊢ <;> omega
    · rw [cur_snoc]; exact ih.hg
    · rw [cur_snoc]; exact ih.gl
    · rw [cur_snoc]
      refine ⟨(j' + 1) % ns.length, ?_, Nat.mod_lt _ (by omega)⟩
      show ((Wk.mk b ns s0 h).cur.turn + 1) % (ns.length : Nat) = _
      rw [hj']
      rfl
    · intro x hx
      rw [List.map_append, List.map_singleton] at hx
      rcases List.mem_append.mp hx with q | q
      · exact ih.acts x q
      · rw [List.mem_singleton] at q; subst q
        exact ⟨f.nok.ok nm (List.mem_of_getElem? h1), h2, h3⟩
  | @goal h g g0 h1 h2 ih =>
    have ea : advR ((h ++ [(Act.goal g, Sit.mk (Wk.mk b ns s0 h).cur.st g (Wk.mk b ns s0 h).cur.left (Wk.mk b ns s0 h).cur.turn)]).map (·.1)) = advR (h.map (·.1)) := by
      rw [List.map_append, List.map_singleton, advR_snoc]
      show _ ++ [] = _
      rw [List.append_nil]
    have ed : dsOf (h ++ [(Act.goal g, Sit.mk (Wk.mk b ns s0 h).cur.st g (Wk.mk b ns s0 h).cur.left (Wk.mk b ns s0 h).cur.turn)]) = dsOf h := by
      show stp _ = _
      rw [ea]
    have gsm : g.Sm := by
      obtain ⟨dx, dh, e, a1, a2, a3, a4, a5, a6, a7⟩ := h1
      have l := ih.left
      have l0 := ih.l0
      have gr := Gr.walk (dsOf h) (Gr.of f.st) (by have := f.l1; omega)
      rw [← ih.st] at gr
      exact gr.goal (by have := f.l1; omega) ⟨a1, a2⟩ ⟨a3, a4⟩ ⟨a5, a6⟩ a7
    constructor
    · rw [ea]; exact ih.pos
    · rw [ed, cur_snoc]; exact ih.left
    · rw [cur_snoc]; exact ih.l0
    · rw [ed, cur_snoc]; exact ih.st
    · rw [ed]; exact ih.hs
    · rw [cur_snoc]; exact h2
    · rw [cur_snoc]; exact gsm
    · rw [cur_snoc]; exact ih.turn
    · intro x hx
      rw [List.map_append, List.map_singleton] at hx
      rcases List.mem_append.mp hx with q | q
      · exact ih.acts x q
      · rw [List.mem_singleton] at q; subst q; exact gsm
/-- what the law keeps of its walker -/
structure Inv (W : Wk) : Prop where
  f : Fst W.b W.ns W.s0
  g : Good W.b W.ns W.s0 W.hist
namespace Inv
variable {W : Wk}
theorem fc (i : Inv W) : Fc W.b W.ns W.s0 W.hist := .of i.f i.g
theorem runs_ds (i : Inv W) : stp W.runs = dsOf W.hist := by
  unfold Wk.runs
  rw [stp_merge _ [] (fun r h => by cases h)] <;> rfl
theorem tot (i : Inv W) : totR W.runs = (dsOf W.hist).length := by rw [totR_stp _ (Nn.of W.runs_pos), i.runs_ds]
theorem len30 (i : Inv W) : (dsOf W.hist).length ≤ 30 := by
  have a := i.fc.left
  have b := i.fc.l0
  have c := i.f.l1
  omega
theorem at_ (i : Inv W) {m : Int} (h : 0 ≤ m) : W.at_ m = walkD W.s0.st ((dsOf W.hist).take m.toNat) := by
  unfold Wk.at_
  rw [afterR_walk _ _ (Nn.of (first_pos _ _ _ fun r h => by cases h)), stp_first _ _ _ h (Nn.of W.runs_pos) (fun r h => by cases h), i.runs_ds] <;> rfl
theorem grAt (i : Inv W) (k : Nat) : Gr ((dsOf W.hist).take k).length (walkD W.s0.st ((dsOf W.hist).take k)) := by
  have a := Gr.walk ((dsOf W.hist).take k) (Gr.of i.f.st) (by rw [List.length_take]; have := i.len30; omega)
  rw [Nat.zero_add] at a
  exact a
theorem pq (i : Inv W) {m : Int} (h : 0 ≤ m) : PQ (W.at_ m) W.cur.gl W.b := by
  rw [i.at_ h]
  exact ⟨i.fc.hs _, i.fc.hg, i.f.two, (i.grAt _).sm (by rw [List.length_take]; have := i.len30; omega), i.fc.gl⟩
theorem atc (i : Inv W) : W.at_ (totR W.runs) = W.cur.st := by
  rw [i.at_ (by rw [i.tot]; omega), i.tot, Int.toNat_natCast, List.take_length]
  exact i.fc.st.symm
theorem hasc (i : Inv W) : W.b.has W.cur.st.h = true := by
  have := (i.pq (m := totR W.runs) (by rw [i.tot]; omega)).hp
  rwa [i.atc] at this
theorem smc (i : Inv W) : W.cur.st.Sm := by
  have := (i.pq (m := totR W.runs) (by rw [i.tot]; omega)).sp
  rwa [i.atc] at this
theorem way (i : Inv W) (hl : W.hist.length < 1000) : W.Way := by
  refine ⟨i.fc.pos, hl, by rw [i.tot]; omega, fun m m0 m1 => ⟨i.pq m0, ?_⟩, i.atc⟩
  refine okA_of _ (Gr.of i.f.st) (Nn.of (first_pos _ _ _ fun r h => by cases h)) ?_
  rw [stp_first _ _ _ m0 (Nn.of W.runs_pos) (fun r h => by cases h), i.runs_ds]
  show 0 + ([] ++ List.take m.toNat (dsOf W.hist)).length ≤ 1000
  rw [List.nil_append, List.length_take]
  have := i.len30
  omega
theorem fine (i : Inv W) (hl : W.hist.length ≤ 20) {j : Nat} {pl : Str} (ht : W.cur.turn = (j : Int)) (hp : W.ns[j]? = some pl) : Fine W j pl := by
  refine ⟨i.way (by omega), by rw [i.tot]; have := i.len30; omega, fun m m0 m1 h => ?_, fun e => ?_, i.fc.l0, ?_, hl, i.fc.acts, i.smc, i.fc.gl, ht, hp, i.f.nok.ok pl (List.mem_of_getElem? hp)⟩
  · unfold Wk.far at h ⊢
    have o := i.pq m0
    have o' := i.pq (show 0 ≤ m + 1 by omega)
    rw [i.tot] at m1
    have hk : m.toNat < (dsOf W.hist).length := by omega
    have es : W.at_ (m + 1) = moveR (W.at_ m) ((dsOf W.hist)[m.toNat]) 1 := by
      rw [i.at_ m0, i.at_ (show 0 ≤ m + 1 by omega), show (m + 1).toNat = m.toNat + 1 by omega, List.take_succ_eq_append_getElem hk, walkD_app] <;> rfl
    rw [es] at o' ⊢
    have := dist_step o o'
    omega
  · have o := i.pq (m := totR W.runs) (by rw [i.tot]; omega)
    rw [i.atc] at o
    rw [← e] at o ⊢
    exact dist_self o
  · have a : W.cur.left = W.s0.left - (dsOf W.hist).length := i.fc.left
    have c := i.f.l1
    omega
/-- the next history -/
theorem next (i : Inv W) {x : Act} {j : Nat} {pl : Str} (ht : W.cur.turn = (j : Int)) (hp : W.ns[j]? = some pl) (hg : actG W.cur x) (ok : okx W pl x) : Inv (W.next x) := by
  cases x with
  | adv nm d n =>
    have ok' : advOk W nm pl d n := ok
    have hg' : 1 ≤ n ∧ n ≤ 4 := hg
    obtain ⟨e, h1, h2⟩ := ok'
    subst e
    exact ⟨i.f, .adv i.g hp hg'.1 hg'.2 h1 h2⟩
  | goal g => exact ⟨i.f, .goal i.g hg ok⟩
  | undo m => exact ⟨i.f, i.g.take _⟩
theorem next_len (x : Act) : (W.next x).hist.length ≤ W.hist.length + 1 := by
  cases x with
  | adv nm d n => show (W.hist ++ [_]).length ≤ _; rw [List.length_append] <;> exact Nat.le_refl _
  | goal g => show (W.hist ++ [_]).length ≤ _; rw [List.length_append] <;> exact Nat.le_refl _
  | undo m => show (W.hist.take _).length ≤ _; rw [List.length_take]; omega
theorem next_b (x : Act) : (W.next x).b = W.b ∧ (W.next x).ns = W.ns := by cases x <;> exact ⟨rfl, rfl⟩
theorem actB (x : Act) (h : actG W.cur x) : Hs.actB W x := by
  cases x with
  | adv nm d n => exact h
  | goal g => trivial
  | undo m => exact h
end Inv
end Hs
end

/-! HsBun -/
section
set_option Elab.async false
set_option linter.all false
set_option maxRecDepth 100000
set_option maxHeartbeats 4000000
/-! what the law's loop keeps of its heap -/
namespace Hs
open PySem PySem.Spec PyProof.Rows L2
theorem IsItem.monoL {H H' : Hp} {v : V} {i : Option Act × Sit} {ls : List Addr} (h : IsItem H v i) (s : SameL ls H H') (n : NoTup H ls) : IsItem H' v i := by
  obtain ⟨t, v1, v2, e, q, h1, h2⟩ := h
  refine ⟨t, v1, v2, e, s.tup n q, h1.monoL s n, ?_⟩
  obtain ⟨o, x⟩ := i
  cases o with
  | none => exact h2
  | some a => exact IsAct.monoL h2 s n
theorem IsPast.monoL {H H' : Hp} {a : Addr} {W : Wk} {ls : List Addr} (h : IsPast H a W) (s : SameL ls H H') (n : NoTup H ls) (ha : a ∉ ls) : IsPast H' a W :=
  let ⟨xs, e, q⟩ := h; ⟨xs, s _ _ ha e, q.imp fun _ _ r => r.monoL s n⟩
theorem IsRm.monoL {H H' : Hp} {v : V} {a c : Option Int} {ls : List Addr} (h : IsRm H v a c) (s : SameL ls H H') (n : NoTup H ls) : IsRm H' v a c := let ⟨t, e, q⟩ := h; ⟨t, e, s.tup n q⟩
def NoBand (K : PySem.W.Frag) (H : Hp) (ls : List Addr) : Prop := ∀ l ∈ ls, ∀ dx x y, H l ≠ some (.ins (BC K) dx [("low_end", x), ("high_end", y)])
theorem IsB.monoL {K : PySem.W.Frag} {H H' : Hp} {v : V} {b : Bnd} {ls : List Addr} (h : IsB K H v b) (s : SameL ls H H') (n : NoBand K H ls) : IsB K H' v b :=
  let ⟨a, dx, e, q⟩ := h; ⟨a, dx, e, s _ _ (fun z => n a z _ _ _ q) q⟩
theorem AtW.monoL {K : PySem.W.Frag} {H H' : Hp} {a LA LE : Addr} {W : Wk} {ls : List Addr} (h : AtW K H a LA LE W) (s : SameL ls H H') (n : NoTup H ls) (nb : NoBand K H ls) (ha : a ∉ ls) (hA : LA ∉ ls) (hE : LE ∉ ls) : AtW K H' a LA LE W := by
  obtain ⟨⟨dx, lim, pl, st0, sit, xa, xe, h1, h2, h3, h4, h5, h6, h7, h8, h9⟩, ne⟩ := h
  exact ⟨⟨dx, lim, pl, st0, sit, xa, xe, s _ _ ha h1, h2.monoL s nb, h3.monoL s n, h4.monoL s n, h5.monoL s n, s _ _ hA h6, h7.imp fun _ _ q => q.monoL s n, s _ _ hE h8, h9.imp fun _ _ q => q.monoL s n⟩, ne⟩
theorem same_stepX {H0 H H' : Hp} {l : Addr} (s : Same H0 H) (n : H0 l = none) (x : SameX l H H') : Same H0 H' := fun b o e => x b o (fun z => by rw [z, n] at e; cases e) (s b o e)
theorem same_stepL {H0 H H' : Hp} {ls : List Addr} (s : Same H0 H) (n : ∀ l ∈ ls, H0 l = none) (x : SameL ls H H') : Same H0 H' := fun b o e => x b o (fun z => by rw [n b z] at e; cases e) (s b o e)
theorem SameX.toL {l : Addr} {H H' : Hp} (s : SameX l H H') : SameL [l] H H' := fun b o n e => s b o (fun z => n (by rw [z]; exact List.mem_singleton.mpr rfl)) e
theorem Pool.noTup {H : Hp} {l : Addr} (h : Pool H l) : NoTup H [l] := fun a ha xs e => by
  obtain ⟨_, _, q, _⟩ := h
  rw [List.mem_singleton.mp ha, q] at e
  cases e
theorem Pool.noBand {K : PySem.W.Frag} {H : Hp} {l : Addr} (h : Pool H l) : NoBand K H [l] := fun a ha _ _ _ e => by
  obtain ⟨_, _, q, _⟩ := h
  rw [List.mem_singleton.mp ha, q] at e
  cases e
theorem AtW.noBand {K : PySem.W.Frag} {H : Hp} {a LA LE : Addr} {W : Wk} (h : AtW K H a LA LE W) : NoBand K H [a, LA, LE] := fun b hb dx' x y e => by
  obtain ⟨⟨dx, lim, pl, st0, sit, xa, xe, h1, h2, h3, h4, h5, h6, h7, h8, h9⟩, ne⟩ := h
  simp only [List.mem_cons, List.not_mem_nil, or_false] at hb
  rcases hb with rfl | rfl | rfl
  · rw [h1] at e
    have e2 := HO.ins.inj (Option.some.inj e)
    have e3 := congrArg List.length e2.2.2
    have e4 : (8 : Nat) = 2 := e3
    omega
  · rw [h6] at e; cases e
  · rw [h8] at e; cases e
/-- all that the loop keeps -/
structure Bun (K : PySem.W.Frag) (H0 H : Hp) (l : Addr) (nv lv ev : V) (pa a LA LE : Addr) (W : Wk) : Prop where
  same : Same H0 H
  pool : Pool H l
  nm : IsNames H nv W.ns
  lim : IsB K H lv W.b
  rm : IsRm H ev W.b.lo W.b.hi
  at_ : AtW K H a LA LE W
  past : IsPast H pa W
  f0 : H0 l = none ∧ H0 a = none ∧ H0 LA = none ∧ H0 LE = none
  n1 : l ≠ LA ∧ l ≠ LE ∧ pa ≠ l ∧ pa ≠ LA ∧ pa ≠ LE
  inv : Inv W
namespace Bun
variable {K : PySem.W.Frag} {H0 H H' : Hp} {l : Addr} {nv lv ev : V} {pa a LA LE : Addr} {W : Wk}
theorem mono (h : Bun K H0 H l nv lv ev pa a LA LE W) (s : Same H H') : Bun K H0 H' l nv lv ev pa a LA LE W :=
  ⟨h.same.trans s, h.pool.mono s, by obtain ⟨t, e, q⟩ := h.nm; exact ⟨t, e, s _ _ q⟩, h.lim.mono s, h.rm.mono s, h.at_.mono s, h.past.mono s, h.f0, h.n1, h.inv⟩
theorem nal (h : Bun K H0 H l nv lv ev pa a LA LE W) : a ≠ l := by
  obtain ⟨⟨dx, lim, pl, st0, sit, xa, xe, h1, h2, h3, h4, h5, h6, h7, h8, h9⟩, ne⟩ := h.at_
  obtain ⟨_, _, q, _⟩ := h.pool
  intro e
  subst e
  rw [h1] at q
  cases q
/-- a draw -/
theorem draw (h : Bun K H0 H l nv lv ev pa a LA LE W) (s : SameX l H H') (p : Pool H' l) : Bun K H0 H' l nv lv ev pa a LA LE W := by
  have sl := s.toL
  have nt := h.pool.noTup
  have nb := h.pool.noBand (K := K)
  have no : ∀ {x : Addr}, x ≠ l → x ∉ [l] := fun q z => q (List.mem_singleton.mp z)
  exact ⟨same_stepX h.same h.f0.1 s, p, h.nm.monoL sl nt, h.lim.monoL sl nb, h.rm.monoL sl nt, h.at_.monoL sl nt nb (no h.nal) (no h.n1.1.symm) (no h.n1.2.1.symm), h.past.monoL sl nt (no h.n1.2.2.1), h.f0, h.n1, h.inv⟩
theorem pna (h : Bun K H0 H l nv lv ev pa a LA LE W) : pa ≠ a := by
  obtain ⟨⟨dx, lim, pl, st0, sit, xa, xe, h1, h2, h3, h4, h5, h6, h7, h8, h9⟩, ne⟩ := h.at_
  obtain ⟨_, q, _⟩ := h.past
  intro e
  subst e
  rw [h1] at q
  cases q
/-- the history went on, the walker with it -/
theorem went (h : Bun K H0 H l nv lv ev pa a LA LE W) (s : SameL [a, LA, LE] H H') {W' : Wk} {p' : Addr} (hb : W'.b = W.b) (hn : W'.ns = W.ns) (at' : AtW K H' a LA LE W') (past : IsPast H p' W') (i : Inv W') (np : p' ≠ l ∧ p' ≠ LA ∧ p' ≠ LE) : Bun K H0 H' l nv lv ev p' a LA LE W' := by
  have nt := h.at_.noTup
  have nb := h.at_.noBand
  obtain ⟨⟨dx, lim, pl, st0, sit, xa, xe, h1, h2, h3, h4, h5, h6, h7, h8, h9⟩, ne⟩ := id h.at_
  obtain ⟨px, hpx, hpx2⟩ := id past
  have npa : p' ≠ a := fun e => by subst e; rw [h1] at hpx; cases hpx
  obtain ⟨c, x, hl, hx⟩ := h.pool
  refine ⟨same_stepL h.same (fun b hb => ?_) s, ⟨c, x, s _ _ ?_ hl, hx⟩, hn ▸ h.nm.monoL s nt, hb ▸ h.lim.monoL s nb, hb ▸ h.rm.monoL s nt, at', past.monoL s nt ?_, h.f0, ⟨h.n1.1, h.n1.2.1, np⟩, i⟩
  · simp only [List.mem_cons, List.not_mem_nil, or_false] at hb
    rcases hb with rfl | rfl | rfl
    · exact h.f0.2.1
    · exact h.f0.2.2.1
    · exact h.f0.2.2.2
  · simp only [List.mem_cons, List.not_mem_nil, or_false]
    rintro (e | e | e)
    · exact h.nal e.symm
    · exact h.n1.1 e
    · exact h.n1.2.1 e
  · simp only [List.mem_cons, List.not_mem_nil, or_false]
    rintro (e | e | e)
    · exact npa e
    · exact np.2.1 e
    · exact np.2.2 e
/-- another walker, made since, with its history -/
theorem other (h : Bun K H0 H l nv lv ev pa a LA LE W) (s : Same H H') {W' : Wk} {p' a' LA' LE' : Addr} (hb : W'.b = W.b) (hn : W'.ns = W.ns) (at' : AtW K H' a' LA' LE' W') (past : IsPast H p' W') (i : Inv W') (f : H a' = none ∧ H LA' = none ∧ H LE' = none) (np : p' ≠ l) : Bun K H0 H' l nv lv ev p' a' LA' LE' W' := by
  have g := h.mono s
  obtain ⟨c, x, hl, hx⟩ := id h.pool
  obtain ⟨px, hpx, hpx2⟩ := id past
  refine ⟨g.same, g.pool, hn ▸ g.nm, hb ▸ g.lim, hb ▸ g.rm, at', past.mono s, ⟨h.f0.1, fresh_back h.same f.1, fresh_back h.same f.2.1, fresh_back h.same f.2.2⟩, ⟨ne_none hl f.2.1, ne_none hl f.2.2, np, ne_none hpx f.2.1, ne_none hpx f.2.2⟩, i⟩
end Bun
end Hs
end

/-! HsD25 -/
section
set_option Elab.async false
set_option linter.all false
set_option maxRecDepth 100000
set_option maxHeartbeats 4000000
namespace Hs
open PySem PySem.Spec PyProof.Rows L2
local macro_rules | `(tactic| walk_at "ix") => `(tactic| refine ⟨_, _, _, _, rfl, rfl, SqT.of (by assumption), (by first | exact at0 | exact at1 | exact at2 | exact at3), ?_⟩)
local macro_rules | `(tactic| walk_at "fl") => `(tactic| refine ⟨_, _, _, _, _, rfl, (by assumption), (by first | exact Tx.c_Band (by assumption) | exact Tx.c_Extents (by assumption) | exact Tx.c_Walker (by assumption)), (by first
  | exact Tx.n_Band_low_end (by assumption) | exact Tx.n_Band_high_end (by assumption) | exact Tx.n_Extents_width (by assumption) | exact Tx.n_Extents_climb (by assumption) | exact Tx.n_Extents_depth (by assumption) | exact Tx.n_Extents_base (by assumption) | exact Tx.n_Extents_limit (by assumption)
  | exact Tx.n_Walker_limits (by assumption) | exact Tx.n_Walker_own_players (by assumption) | exact Tx.n_Walker_own_observer (by assumption) | exact Tx.n_Walker_is_observed (by assumption) | exact Tx.n_Walker_first_state (by assumption) | exact Tx.n_Walker_situation (by assumption) | exact Tx.n_Walker_own_actions (by assumption) | exact Tx.n_Walker_earlier (by assumption)), rfl, ?_⟩)
local macro_rules | `(tactic| walk_at "r1") => `(tactic| first | refine ⟨_, rfl, ?_⟩ | refine ⟨_, _, rfl, rfl, ?_⟩ | refine ⟨_, _, rfl, ?_⟩ | walk_at "ix" | walk_at "fl")
local macro_rules | `(tactic| walk_at "rd") => `(tactic| repeat walk_at "r1")
local macro_rules | `(tactic| walk_at "b") => `(tactic| first | (exact fun _ _ _ _ _ _ us hl => match us, hl with | [_], _ => rfl) | (exact fun _ _ _ _ _ _ us hl => match us, hl with | [_, _], _ => rfl) | (exact fun _ _ _ _ _ _ us hl => match us, hl with | [_, _, _], _ => rfl) | (exact fun _ _ _ _ _ _ us hl => match us, hl with | [_, _, _, _], _ => rfl))
section
variable {P : Program} {w : World} {K : PySem.W.Frag} {mg : Str → Option Value} {base : Heap} (T : Tx K mg)
set_option exponentiation.threshold 2000
/-! ### the law's lost -/
/-! ### the law -/
def spLaw (K : PySem.W.Frag) : Sp := fun vs H Q _ => ∃ (a : Addr) (ns : List Int), vs = [.ref a] ∧ SqL K H a (ns.map V.int) ∧ ns.length ≤ 63 ∧ ∀ H', Q (.bl true) H'
theorem same_make {H H' : Hp} {x dx : Addr} {o1 o2 : HO} (hx : H x = none) (hdx : H dx = none) (s : SameX x (upd (upd H dx o1) x o2) H') : Same H H' := fun b o e =>
  have n1 : b ≠ x := ne_none e hx
  have n2 : b ≠ dx := ne_none e hdx
  s b o n1 (by rw [upd_ne n1, upd_ne n2]; exact e)
theorem tnil_go {σ : L2.St} {H : Hp} {Q : List V → Hp → Prop} (h : Q [] H) : tNil σ H Q := h
/-- the next history, or none -/
structure Nx (K : PySem.W.Frag) (H0 H : Hp) (l : Addr) (nv lv ev : V) (pa a LA LE : Addr) (W : Wk) (x : Act) (okb : Bool) (y : V) (pp : Addr) (W' : Wk) : Prop where
  bun : Bun K H0 H l nv lv ev pa a LA LE W
  yv : y = if okb then .ref pp else .non
  pe : okb = false → pp = pa
  past : IsPast H pp W'
  inv : Inv W'
  hb : W'.b = W.b
  hn : W'.ns = W.ns
  np : pp ≠ l ∧ pp ≠ LA ∧ pp ≠ LE
  len : W'.hist.length ≤ W.hist.length + 1
  done : ∀ (H' : Hp) (a' LA' LE' : Addr) (av : V) (Q : VK) (E : XK), AtW K H' a' LA' LE' W → IsAct H' av x → (∀ H'', SameL [a', LA', LE'] H' H'' → AtW K H'' a' LA' LE' W' → Q (.bl okb) H'') → spDone K [.ref a', av] H' Q E
theorem next_use {K : PySem.W.Frag} {H0 H : Hp} {l : Addr} {nv lv ev av : V} {pa a LA LE : Addr} {W : Wk} {x : Act} {Q : VK} {E : XK} (B : Bun K H0 H l nv lv ev pa a LA LE W) (hl : W.hist.length < 900) (hx : IsAct H av x) (gx : actG W.cur x)
    (h : ∀ okb y pp W' H', Nx K H0 H' l nv lv ev pa a LA LE W x okb y pp W' → Same H H' → Q y H') : spNext [ev, nv, .ref pa, av] H Q E := by
  obtain ⟨j, hj, hj2⟩ := B.inv.fc.turn
  have hj' : W.cur.turn = (j : Int) := hj
  have hpl : W.ns[j]? = some W.ns[j] := List.getElem?_eq_getElem hj2
  refine ⟨ev, nv, av, pa, W, x, j, W.ns[j], rfl, B.rm, B.nm, B.past, hx, hj', hpl, by omega, Inv.actB x gx, fun ok H' p' s fp hp => ?_, fun nok H' s => ?_⟩
  · have e := Inv.next_b (W := W) x
    obtain ⟨⟨dx, lim, pl, st0, sit, xa, xe, h1, h2, h3, h4, h5, h6, h7, h8, h9⟩, ne⟩ := id B.at_
    obtain ⟨c, z, hp0, hz⟩ := id B.pool
    refine h true (.ref p') p' (W.next x) H' ⟨B.mono s, rfl, fun z => (by cases z), hp, B.inv.next hj' hpl gx ok, e.1, e.2, ⟨(ne_none hp0 fp).symm, (ne_none h6 fp).symm, (ne_none h8 fp).symm⟩, Inv.next_len x, fun H1 a' LA' LE' av' Q' E' at1 hx1 hq => ?_⟩ s
    exact ⟨a', LA', LE', W, av', x, j, W.ns[j], rfl, at1, hx1, hj', hpl, by omega, Inv.actB x gx, B.inv.hasc, B.inv.smc, fun _ H2 s2 at2 => hq H2 s2 at2, fun nok => absurd ok nok⟩
  · refine h false .non pa W H' ⟨B.mono s, rfl, fun _ => rfl, B.past.mono s, B.inv, rfl, rfl, ⟨B.n1.2.2.1, B.n1.2.2.2.1, B.n1.2.2.2.2⟩, Nat.le_succ _, fun H1 a' LA' LE' av' Q' E' at1 hx1 hq => ?_⟩ s
    exact ⟨a', LA', LE', W, av', x, j, W.ns[j], rfl, at1, hx1, hj', hpl, by omega, Inv.actB x gx, B.inv.hasc, B.inv.smc, fun ok => absurd ok nok, fun _ H2 s2 => hq H2 (SameL.of s2) (at1.mono s2)⟩
theorem same_use {K : PySem.W.Frag} {H0 H : Hp} {l : Addr} {nv lv ev : V} {pa a LA LE : Addr} {W : Wk} {Q : VK} {E : XK} (B : Bun K H0 H l nv lv ev pa a LA LE W) (hl : W.hist.length ≤ 20)
    (h : ∀ H', Bun K H0 H' l nv lv ev pa a LA LE W → Q (.bl true) H') : spSame K [.ref a, nv, .ref pa, lv] H Q E := by
  obtain ⟨j, hj, hj2⟩ := B.inv.fc.turn
  have hj' : W.cur.turn = (j : Int) := hj
  have hpl : W.ns[j]? = some W.ns[j] := List.getElem?_eq_getElem hj2
  exact ⟨a, LA, LE, pa, W, nv, lv, j, W.ns[j], rfl, B.at_, B.nm, B.past, B.lim, B.inv.fine hl hj' hpl, fun H' s => h H' (B.mono s)⟩
theorem scLaw : FnScope ["_law_script", "_law_k", "_law_pool_here", "_law_start", "_law_aim", "_law_ends_here", "_law_limits", "_law_names_here", "_law_left", "_law_walker", "_law_past", "_law_turn", "_law_act_here", "_law_later", "_law_way", "_law_other"] ["_law_script"] (defScope sLaw) := ⟨rfl, rfl, rfl, by decide +kernel, rfl, by decide +kernel, by decide +kernel⟩
include T in
theorem ok_law (fd : FuncData) (F : FunD K "law" "law" (defArgs sLaw) (defBody sLaw) (defScope sLaw) [] [] (He.ga K "law") fd) : FnG P w K mg base (L2.CX P w) 13 (He.ga K "law") fd ["_law_script"] (spLaw K) := by
  obtain ⟨fdS, FS, kpS, bS⟩ := ok_law_same (P := P) (w := w) (base := base) T
  refine funD_okG F scLaw (fun vs H Q E h => ?_) (fun cdv A outer s H vs Q E hgd hr h => ⟨_, PSs.nox (pss_cons (ps_for PassesOwn.never rfl (pi_range1 rfl T.f_range (pa_cons (pe_callB (call_max2 rfl) rfl T.f_max boot_max (pa_cons pe_int (pa_cons (pe_callB (call_min2 rfl) rfl T.f_min boot_min (pa_cons pe_int (pa_cons (pe_callB call_len_seq rfl T.f_len boot_len (pa_cons (pv 0) pa_nil)) pa_nil))) pa_nil))) pa_nil)) (pg_name (i := 1) scLaw.nd rfl (by first | exact Or.inl rfl | exact Or.inr rfl)) (pss_cons (ps_set (i := 2) scLaw.nd rfl (by first | exact Or.inl rfl | exact Or.inr rfl) (pe_c (ok_law_pool T) hr (by decide) (pa_cons (pv 0) (pa_cons (pv 1) pa_nil))))
      (pss_cons (ps_asg (pe_c (ok_law_world T) hr (by decide) (pa_cons (pv 2) pa_nil)) (pg_lst rfl (pgs_cons (pg_name (i := 3) scLaw.nd rfl (by first | exact Or.inl rfl | exact Or.inr rfl)) (pgs_cons (pg_name (i := 4) scLaw.nd rfl (by first | exact Or.inl rfl | exact Or.inr rfl)) (pgs_cons (pg_name (i := 5) scLaw.nd rfl (by first | exact Or.inl rfl | exact Or.inr rfl)) pgs_nil)))))
      (pss_cons (ps_set (i := 6) scLaw.nd rfl (by first | exact Or.inl rfl | exact Or.inr rfl) (pe_mk (ok_Band T) hr (by decide) (pa_cons (pe_ix ix_tup (pv 5) pe_int (fun _ _ => rfl)) (pa_cons (pe_ix ix_tup (pv 5) pe_int (fun _ _ => rfl)) pa_nil))))
      (pss_cons (ps_set (i := 7) scLaw.nd rfl (by first | exact Or.inl rfl | exact Or.inr rfl) (pe_c (ok_law_names T) hr (by decide) (pa_cons (pv 2) (pa_cons pe_int pa_nil))))
      (pss_cons (ps_set (i := 8) scLaw.nd rfl (by first | exact Or.inl rfl | exact Or.inr rfl) (pe_c (ok_law_take T) hr (by decide) (pa_cons (pv 2) (pa_cons pe_int pa_nil))))
      (pss_cons (ps_set (i := 9) scLaw.nd rfl (by first | exact Or.inl rfl | exact Or.inr rfl) (pe_mkK (ok_Walker T) hr (by decide) (pa_cons (pv 3) (pa_cons (pv 4) (pa_cons (pv 8) pa_nil))) (pk_cons (pv 6) (pk_cons (pv 7) pk_nil))))
      (pss_cons (ps_set (i := 10) scLaw.nd rfl (by first | exact Or.inl rfl | exact Or.inr rfl) (pe_lst (pa_cons (pe_tup (pa_cons (pe_tup (pa_cons (pv 3) (pa_cons (pv 4) (pa_cons (pv 8) (pa_cons pe_int pa_nil))))) (pa_cons pe_non pa_nil))) pa_nil)))
      (pss_one (ps_for PassesOwn.never rfl (pi_range1 rfl T.f_range (pa_cons (pe_c (ok_law_take T) hr (by decide) (pa_cons (pv 2) (pa_cons pe_int pa_nil))) pa_nil)) (pg_name (i := 11) scLaw.nd rfl (by first | exact Or.inl rfl | exact Or.inr rfl)) (pss_cons (ps_set (i := 12) scLaw.nd rfl (by first | exact Or.inl rfl | exact Or.inr rfl) (pe_c (ok_law_act T) hr (by decide) (pa_cons (pv 2) (pa_cons (pv 7) (pa_cons (pe_ix ix_tup (pe_ix ix_list (pv 10) (pe_un un_neg pe_int) (fun _ _ => rfl)) pe_int (fun _ _ => rfl)) (pa_cons (pe_callB call_len_seq rfl T.f_len boot_len (pa_cons (pv 10) pa_nil)) pa_nil))))))
      (pss_cons (ps_set (i := 13) scLaw.nd rfl (by first | exact Or.inl rfl | exact Or.inr rfl) (pe_c (ok_law_next T) hr (by decide) (pa_cons (pv 5) (pa_cons (pv 7) (pa_cons (pv 10) (pa_cons (pv 12) pa_nil))))))
      (pss_cons (ps_set (i := 14) scLaw.nd rfl (by first | exact Or.inl rfl | exact Or.inr rfl) (pe_c (ok_law_take T) hr (by decide) (pa_cons (pv 2) (pa_cons pe_int pa_nil))))
      (pss_cons (ps_set (i := 15) scLaw.nd rfl (by first | exact Or.inl rfl | exact Or.inr rfl) (pv 9))
      (pss_cons (ps_if (pt_cmp (pc_lt (pv 14) pe_int)) (pss_one (ps_set (i := 15) scLaw.nd rfl (by first | exact Or.inl rfl | exact Or.inr rfl) (pe_mt0 (ok_Walker_clone T) hr (by decide) (pv 9)))) pss_nil)
      (pss_cons (ps_if (pt_cmpR op_ne (pe_c (ok_law_done T) hr (by decide) (pa_cons (pv 15) (pa_cons (pv 12) pa_nil))) (pe_cmp (pc_notN (pv 13))) (nomark _)) (pss_one (ps_ret pe_bl)) pss_nil)
      (pss_cons (ps_if (pt_cmp (pc_gt (pv 14) pe_int)) (pss_cons (ps_set (i := 9) scLaw.nd rfl (by first | exact Or.inl rfl | exact Or.inr rfl) (pv 15))
      (pss_one (ps_set (i := 10) scLaw.nd rfl (by first | exact Or.inl rfl | exact Or.inr rfl) (pe_ifExp (pt_cmp (pc_notN (pv 13))) (pv 13) (pv 10))))) pss_nil)
      (pss_one (ps_if (pt_not (pt_val (pe_callG FS hgd (hr.mono (by decide)) T.g_law_same kpS bS passL (pa_cons (pv 9) (pa_cons (pv 7) (pa_cons (pv 10) (pa_cons (pv 6) pa_nil))))))) (pss_one (ps_ret pe_bl)) pss_nil)))))))))))))))))))
      (pss_one (ps_ret pe_bl))), ?_⟩)
  · obtain ⟨_, _, rfl, _⟩ := h; rfl
  · obtain ⟨a, ns, rfl, ha, hn, h⟩ := h
    refine ⟨_, rfl, _, _, rfl, .inl ha, _, _, rfl, _, _, rfl, ?_⟩
    generalize hj : (if (if ((ns.map V.int).length : Int) < 2 then (((ns.map V.int).length : Nat) : Int) else 2) > 1 then (if ((ns.map V.int).length : Int) < 2 then (((ns.map V.int).length : Nat) : Int) else 2) else 1) = j0
    have hj2 : 0 ≤ j0 ∧ j0 ≤ 2 := by rw [← hj]; split <;> split <;> omega
    refine ⟨_, rfl, by omega, by omega, ?_⟩
    refine for_range (lo := 0) (n := j0.toNat) (fun i σ H' => Same H H' ∧ ∃ u1 u2 u3 u4 u5 u6 u7 u8 u9 u10 u11 u12 u13 u14 u15, σ = [some (.ref a), u1, u2, u3, u4, u5, u6, u7, u8, u9, u10, u11, u12, u13, u14, u15])
      ⟨Same.refl H, _, _, _, _, _, _, _, _, _, _, _, _, _, _, _, rfl⟩ (fun k σ H1 hk q => ?_) fun σ H1 q => ?_
    · obtain ⟨s1, u1, u2, u3, u4, u5, u6, u7, u8, u9, u10, u11, u12, u13, u14, u15, rfl⟩ := q
      refine ⟨_, rfl, _, rfl, ?_⟩
      refine ⟨a, ns, k, by rw [Int.zero_add] <;> rfl, s1.seq ha, by omega, fun H2 l s2 hl p2 => ?_⟩
      refine ⟨_, rfl, ?_⟩
      refine ⟨l, rfl, p2, fun H3 wd v1 v2 v3 p q b s3 p3 hw ip iq irm two hp hq wp wq => ?_⟩
      refine ⟨wd, _, rfl, SqL.of hw, rfl, _, _, rfl, _, _, rfl, _, _, rfl, rfl, ?_⟩
      obtain ⟨t, rfl, ht⟩ := id irm
      refine ⟨_, rfl, _, _, _, _, rfl, rfl, SqT.of ht, at0, ?_⟩
      refine ⟨_, rfl, _, _, _, _, rfl, rfl, SqT.of ht, at1, ?_⟩
      refine fun lb dx hx hdx ne => ⟨lb, dx, b, rfl, upd_same, fun y z e1 e2 => Int.le_of_lt (two y z e1 e2), fun H4 s4 hb => ⟨rfl, ?_⟩⟩
      have s34 := same_make hx hdx s4
      have p4 := p3.mono s34
      refine ⟨_, rfl, ?_⟩
      refine ⟨l, rfl, p4, fun H5 nv nms s5 p5 hnm nok nl => ?_⟩
      refine ⟨_, rfl, ?_⟩
      refine ⟨l, 31, rfl, p5, by decide, by decide, fun H6 left s6 p6 g0 g1 => ?_⟩
      have s46 := (s5.trans s6)
      have s36 := (SameX.of (l := l) s34).trans s46
      have ip6 := ip.monoL s36.toL p3.noTup
      have iq6 := iq.monoL s36.toL p3.noTup
      have irm6 := irm.monoL s36.toL p3.noTup
      have ib6 := IsB.monoL (K := K) ⟨lb, dx, rfl, hb⟩ s46.toL p4.noBand
      have hnm6 := hnm.monoL s6.toL p5.noTup
      have fl : H l = none := fresh_back s1 hl
      have s06 : Same H H6 := same_stepX (same_stepX ((same_stepX (s1.trans s2) fl s3).trans s34) fl s5) fl s6
      clear s46 s36 ip iq irm s34 s5 s6 s4 s3 p2 p3 p4 p5 hnm
      refine ⟨_, rfl, _, rfl, _, rfl, ?_⟩
      refine ⟨_, rfl, _, rfl, ?_⟩
      refine ⟨rfl, rfl, fun a' dx' ha' hdx' ne' => ?_⟩
      have s6m := same_make (o1 := .own a') (o2 := .ins (WC K) dx' []) ha' hdx' (fun _ _ _ e => e)
      refine ⟨a', dx', v1, v2, .ref lb, nv, p, q, left, b, nms, rfl, upd_same, ip6.mono s6m, iq6.mono s6m, ib6.mono s6m, (by obtain ⟨z, e, y⟩ := hnm6; exact ⟨z, e, s6m _ _ y⟩), nok, hp, hq, g0, fun H7 LA LE s7 hLA hLE at7 => ⟨rfl, ?_⟩⟩
      have s67 := same_make ha' hdx' s7
      have p7 := p6.mono s67
      have ip7 := ip6.mono s67
      have iq7 := iq6.mono s67
      obtain ⟨c0, z0, hl6, hz6⟩ := id p6
      have nLA : l ≠ LA := ne_none (s6m _ _ hl6) hLA
      have nLE : l ≠ LE := ne_none (s6m _ _ hl6) hLE
      have fLA : H LA = none := fresh_back (s06.trans s6m) hLA
      have fLE : H LE = none := fresh_back (s06.trans s6m) hLE
      have fa : H a' = none := fresh_back s06 ha'
      refine ⟨_, rfl, _, rfl, _, rfl, ?_⟩
      refine ⟨l4, fun t1 ht1 => ?_⟩
      refine ⟨l2, fun t2 ht2 => ?_⟩
      refine ⟨l1, fun pa hpa => ?_⟩
      have r1 := same_upd (o := .tup [v1, v2, .int left, .int 0]) ht1
      have r2 := same_upd2 r1 (o := .tup [.ref t1, .non]) ht2
      have r3 := same_upd2 r2 (o := .lst [.ref t2]) hpa
      have n12 : t1 ≠ t2 := ne_none upd_same ht2
      have n1p : t1 ≠ pa := ne_none (show _ = some (HO.tup [v1, v2, .int left, .int 0]) by rw [upd_ne n12, upd_same]) hpa
      have n2p : t2 ≠ pa := ne_none upd_same hpa
      have past : IsPast (upd (upd (upd H7 t1 (.tup [v1, v2, .int left, .int 0])) t2 (.tup [.ref t1, .non])) pa (.lst [.ref t2])) pa ⟨b, nms, ⟨p, q, left, 0⟩, []⟩ := by
        refine ⟨[.ref t2], upd_same, .one ⟨t2, .ref t1, .non, rfl, ?_, ⟨t1, v1, v2, rfl, ?_, ip7.mono r3, iq7.mono r3⟩, rfl⟩⟩
        · rw [upd_ne n2p, upd_same]
        · rw [upd_ne n1p, upd_ne n12, upd_same]
      obtain ⟨⟨wdx, wlim, wpl, wst0, wsit, wxa, wxe, w1, w2, w3, w4, w5, w6, w7, w8, w9⟩, wne⟩ := id at7
      obtain ⟨c7, z7, hl7, hz7⟩ := id p7
      have B : Bun K H (upd (upd (upd H7 t1 (.tup [v1, v2, .int left, .int 0])) t2 (.tup [.ref t1, .non])) pa (.lst [.ref t2])) l nv (.ref lb) (.ref t) pa a' LA LE ⟨b, nms, ⟨p, q, left, 0⟩, []⟩ := by
        refine ⟨(s06.trans s67).trans r3, p7.mono r3, ?_, (ib6.mono s67).mono r3, (irm6.mono s67).mono r3, at7.mono r3, past, ⟨fl, fa, fLA, fLE⟩, ⟨nLA, nLE, (ne_none (r2 _ _ hl7) hpa).symm, (ne_none (r2 _ _ w6) hpa).symm, (ne_none (r2 _ _ w8) hpa).symm⟩, ⟨⟨two, nok, rfl, g0, ?_, wp, wq, hp, hq⟩, .nil⟩⟩
        · obtain ⟨z, e, y⟩ := hnm6; exact ⟨z, e, r3 _ _ (s67 _ _ y)⟩
        · show left ≤ 30; omega
      generalize upd (upd (upd H7 t1 (.tup [v1, v2, .int left, .int 0])) t2 (.tup [.ref t1, .non])) pa (.lst [.ref t2]) = H8 at B ⊢
      refine ⟨_, rfl, l, 11, rfl, B.pool, by decide, by decide, fun H9 tn s9 p9 t0 t1' => ?_⟩
      have B9 := B.draw s9 p9
      refine ⟨_, rfl, by omega, by omega, ?_⟩
      refine for_range (lo := 0) (n := tn.toNat) (fun i σ H' => ∃ pa a' LA LE W, Bun K H H' l nv (.ref lb) (.ref t) pa a' LA LE W ∧ W.hist.length ≤ i ∧
          ∃ y11 y12 y13 y14 y15, σ = [some (.ref a), some (.int (0 + (k : Int))), some (.ref l), some v1, some v2, some (.ref t), some (.ref lb), some nv, some (.int left), some (.ref a'), some (.ref pa), y11, y12, y13, y14, y15])
        ⟨_, _, _, _, _, B9, Nat.le_refl _, _, _, _, _, _, rfl⟩ (fun i σ H' hi q => ?_) fun σ H' q => ?_
      · obtain ⟨pa, a', LA, LE, W, B, hlen, y11, y12, y13, y14, y15, rfl⟩ := q
        have hi11 : i ≤ 10 := by omega
        obtain ⟨ps, hps, hit0⟩ := id B.past
        have hit := hit0
        obtain ⟨L, o, hL⟩ := items_last W
        rw [hL] at hit
        obtain ⟨us, xl, eps, hus, hxl⟩ := hit.snoc_inv
        obtain ⟨ti, w1, w2, rfl, hti, hsit, _⟩ := hxl
        have hplen : ps.length = W.hist.length + 1 := by rw [hit0.len, items_len]
        have hlast : atI ps (-1) = some (V.ref ti) := by rw [eps]; exact atI_last _ _
        obtain ⟨j, hj, hj2⟩ := B.inv.fc.turn
        have hj' : W.cur.turn = (j : Int) := hj
        refine ⟨_, rfl, _, rfl, _, rfl, _, rfl, _, _, _, _, rfl, rfl, SqL.of hps, hlast, ?_⟩
        refine ⟨_, _, _, _, rfl, rfl, SqT.of hti, at0, ?_⟩
        refine ⟨_, rfl, _, _, rfl, .inl (SqL.of hps), ?_⟩
        refine ⟨l, nv, w1, ps.length, W.ns, W.cur, rfl, B.pool, B.nm, B.inv.f.nok.n1, hsit, by rw [hj']; omega, by omega, fun H2 av x s2 p2 hx gx => ?_⟩
        have B2 := B.draw s2 p2
        refine ⟨_, rfl, _, rfl, _, rfl, _, rfl, ?_⟩
        refine tnil_go ?_
        refine next_use B2 (by omega) hx gx fun okb y pp W' H3 N s3 => ?_
        have hx3 := hx.mono s3
        refine ⟨_, rfl, l, 4, rfl, N.bun.pool, by decide, by decide, fun H4 wy s4 p4 y0 y1 => ?_⟩
        have B4 := N.bun.draw s4 p4
        have hx4 := hx3.monoL s4.toL N.bun.pool.noTup
        have past4 := N.past.monoL s4.toL N.bun.pool.noTup (fun z => N.np.1 (List.mem_singleton.mp z))
        -- the end of the round
        have hyn : (!decide (y = V.non)) = okb := by
          rw [N.yv]
          cases okb with
          | true => show (!decide (V.ref pp = V.non)) = true; rw [decide_eq_false (fun h => by cases h)]; rfl
          | false => show (!decide (V.non = V.non)) = false; rw [decide_eq_true rfl]; rfl
        have rest : ∀ (D : Ends) (a2 LA2 LE2 : Addr) (H5 : Hp), AtW K H5 a2 LA2 LE2 W → IsAct H5 av x → 
            (∀ H6, SameL [a2, LA2, LE2] H5 H6 → AtW K H6 a2 LA2 LE2 W' → (0 < wy → Bun K H H6 l nv (.ref lb) (.ref t) pp a2 LA2 LE2 W') ∧ (¬ 0 < wy → Bun K H H6 l nv (.ref lb) (.ref t) pa a' LA LE W)) →
            (∀ H7 a3 LA3 LE3 pa3 W3, Bun K H H7 l nv (.ref lb) (.ref t) pa3 a3 LA3 LE3 W3 → W3.hist.length ≤ i + 1 → D.nx [some (.ref a), some (.int (0 + (k : Int))), some (.ref l), some v1, some v2, some (.ref t), some (.ref lb), some nv, some (.int left), some (.ref a3), some (.ref pa3), some (.int (0 + (i : Int))), some av, some y, some (.int wy), some (.ref a2)] H7) →
            tSeq (tIfS (tTest (tOp rNe (tCall (spDone K) [] E0 (tCons (tVar 15) (tCons (tVar 12) tNil))) (tNotN (tVar 13)))) (tRet (tC (.bl false))) tNext)
              (tSeq (tIfS (tB (tGt (tVar 14) (tC (.int 0)))) (tSeq (tAsg (tVar 15) (gName 9)) (tAsg (tIf (tB (tNotN (tVar 13))) (tVar 13) (tVar 10)) (gName 10))) tNext)
                (tIfS (tNot (tB (tCall (spSame K) [] E0 (tCons (tVar 9) (tCons (tVar 7) (tCons (tVar 10) (tCons (tVar 6) tNil))))))) (tRet (tC (.bl false))) tNext))
              D [some (.ref a), some (.int (0 + (k : Int))), some (.ref l), some v1, some v2, some (.ref t), some (.ref lb), some nv, some (.int left), some (.ref a'), some (.ref pa), some (.int (0 + (i : Int))), some av, some y, some (.int wy), some (.ref a2)] H5 := by
          intro D a2 LA2 LE2 H5 at5 hx5 hb hd
          refine ⟨_, rfl, _, rfl, ?_⟩
          refine tnil_go ?_
          refine N.done H5 a2 LA2 LE2 av _ _ at5 hx5 fun H6 s6 at6 => ?_
          obtain ⟨b1, b2⟩ := hb H6 s6 at6
          refine ⟨_, rfl, ?_⟩
          refine ⟨rfl, _, rfl, ?_⟩
          rw [hyn]
          refine ite2 (fun z => ?_) fun _ => ?_
          · rw [decide_eq_true rfl] at z
            cases z
          -- the comparison at the end
          have fin : ∀ (H7 : Hp) (a3 LA3 LE3 pa3 : Addr) (W3 : Wk), Bun K H H7 l nv (.ref lb) (.ref t) pa3 a3 LA3 LE3 W3 → W3.hist.length ≤ i + 1 →
              tIfS (tNot (tB (tCall (spSame K) [] E0 (tCons (tVar 9) (tCons (tVar 7) (tCons (tVar 10) (tCons (tVar 6) tNil))))))) (tRet (tC (.bl false))) tNext D
                [some (.ref a), some (.int (0 + (k : Int))), some (.ref l), some v1, some v2, some (.ref t), some (.ref lb), some nv, some (.int left), some (.ref a3), some (.ref pa3), some (.int (0 + (i : Int))), some av, some y, some (.int wy), some (.ref a2)] H7 := by
            intro H7 a3 LA3 LE3 pa3 W3 B7 l7
            refine ⟨_, rfl, _, rfl, _, rfl, _, rfl, ?_⟩
            refine tnil_go ?_
            refine same_use B7 (by omega) fun H8 B8 => ?_
            refine ⟨_, rfl, ?_⟩
            refine ite2 (fun z => by cases z) fun _ => ?_
            exact hd H8 a3 LA3 LE3 pa3 W3 B8 l7
          have l6 : W'.hist.length ≤ i + 1 := by have := N.len; omega
          refine ⟨_, rfl, ?_⟩
          refine ⟨_, _, rfl, rfl, _, rfl, ?_⟩
          refine ite2 (fun z => ?_) fun z => ?_
          · have b := b1 (of_decide_eq_true z)
            refine ⟨_, rfl, ?_⟩
            refine ⟨_, rfl, _, rfl, ?_⟩
            rw [hyn]
            refine ite2 (fun z2 => ?_) fun z2 => ?_
            · have ey : y = .ref pp := by rw [N.yv, z2]; rfl
              refine ⟨_, rfl, ?_⟩
              have r := fin H6 a2 LA2 LE2 pp W' b l6
              rw [← ey] at r
              exact r
            · have e : pp = pa := N.pe (by cases okb with
                | true => exact absurd rfl z2
                | false => rfl)
              refine ⟨_, rfl, ?_⟩
              rw [e] at b
              exact fin H6 a2 LA2 LE2 pa W' b l6
          · have b := b2 (fun q => z (decide_eq_true q))
            exact fin H6 a' LA LE pa W b (by omega)
        refine ⟨_, rfl, ?_⟩
        refine ⟨_, rfl, ?_⟩
        refine ⟨_, _, rfl, rfl, _, rfl, ?_⟩
        obtain ⟨⟨wdx, wlim, wpl, wst0, wsit, wxa, wxe, h4a, w2, w3, w4, w5, w6, w7, w8, w9⟩, wne⟩ := id B4.at_
        refine ite2 (fun z => ?_) fun z => ?_
        · refine ⟨_, rfl, _, _, _, rfl, h4a, rfl, ?_⟩
          refine ⟨a', LA, LE, W, rfl, B4.at_, B.inv.f.nok, B.inv.f.hs, fun H5 a2 LA2 LE2 s5 f1 f2 f3 at5 => ?_⟩
          refine rest _ a2 LA2 LE2 H5 at5 (hx4.mono s5) (fun H6 s6 at6 => ?_) fun H7 a3 LA3 LE3 pa3 W3 B7 l7 => ?_
          · have s46 : Same H4 H6 := same_stepL s5 (fun b hb => by
              simp only [List.mem_cons, List.not_mem_nil, or_false] at hb
              rcases hb with rfl | rfl | rfl
              · exact f1
              · exact f2
              · exact f3) s6
            exact ⟨fun _ => B4.other s46 N.hb N.hn at6 past4 N.inv ⟨f1, f2, f3⟩ N.np.1, fun _ => B4.mono s46⟩
          · exact ⟨_, _, _, _, _, B7, l7, _, _, _, _, _, rfl⟩
        · refine rest _ _ _ _ _ B4.at_ hx4 (fun H6 s6 at6 => ⟨fun c => ?_, fun c => ?_⟩) fun H7 a3 LA3 LE3 pa3 W3 B7 l7 => ?_
          · exact B4.went s6 N.hb N.hn at6 past4 N.inv N.np
          · have z' : ¬ wy < 2 := fun q => z (decide_eq_true q)
            omega
          · exact ⟨_, _, _, _, _, B7, l7, _, _, _, _, _, rfl⟩
      · obtain ⟨pa, a', LA, LE, W, B, hlen, y11, y12, y13, y14, y15, rfl⟩ := q
        exact ⟨B.same, _, _, _, _, _, _, _, _, _, _, _, _, _, _, _, rfl⟩
    · obtain ⟨s1, u1, u2, u3, u4, u5, u6, u7, u8, u9, u10, u11, u12, u13, u14, u15, rfl⟩ := q
      exact h H1
end
section
variable {P : Program} {w : World} {K : PySem.W.Frag} {mg : Str → Option Value} (T : Tx K mg)
include T in
theorem ok_law0 : ∃ fd, (∀ (s : Shared) (u : Value), BindsTo s fd ⟨[u], []⟩ [("_law_script", u)]) ∧ ∀ base : Heap, FnG P w K mg base (L2.CX P w) 13 (He.ga K "law") fd ["_law_script"] (spLaw K) := by
  obtain ⟨fd, F⟩ := T.d_Law
  have b := FunD.bindsA (ps := ["_law_script"]) F fun _ _ _ _ _ _ us hl => match us, hl with | [_], _ => rfl
  exact ⟨fd, fun s u => b s [u] rfl, fun base => ok_law T fd F⟩
end
end Hs
end

/-! HsEnd -/
set_option Elab.async false
set_option linter.all false
set_option maxRecDepth 100000
set_option maxHeartbeats 0
open PySem PySem.W PySem.Calls PyProof.Rows
theorem PySem.Challenge.cw_heightsums_k67_whole_histories_of_walker_holds : PySem.Challenge.rw_heightsums_k67_whole_histories_of_walker.Holds := by
  w_on; o_law
  refine HandSHeadRun.head_any (r := OpenLaw.row PySem.Challenge.rw_heightsums_k67_whole_histories_of_walker) (q := view (OpenLaw.row PySem.Challenge.rw_heightsums_k67_whole_histories_of_walker).prog [75]) (H := Hs.hk) (ob := Hs.hob) (M := 6000) (loose := Hs.nmAll) (d := HandSHeadRun.topDef (OpenLaw.row PySem.Challenge.rw_heightsums_k67_whole_histories_of_walker).prog 75) (kwd := []) Hs.hob_eq
    (by kernel_rfl) (fun s => by kernel_rfl) Hs.hrun (by kernel_rfl) (by kernel_rfl) (by kernel_rfl) (by rfl) (by first | assumption | decide +kernel) (by decide +kernel) ⟨rfl, rfl, rfl, rfl, rfl, by decide +kernel⟩ ?hw ?hc
  case hw => w_witness2
  case hc =>
    refine Hs.walk_ofG (l := PySem.Challenge.rw_heightsums_k67_whole_histories_of_walker) (n := 63) (k := 13) (x := "_law_script") rfl (by decide) (by kernel_rfl) ⟨rfl, by decide, by decide⟩ ?F
    intro w mg fa h Y G hmg0
    obtain ⟨K, KX, c, e⟩ := Y
    have hmg : mg ("law" : PySem.Str) = some (.ref fa) := by
      have e : (HandSHeadRun.topDef (OpenLaw.row PySem.Challenge.rw_heightsums_k67_whole_histories_of_walker).prog 75).name = ("law" : PySem.Str) := by kernel_rfl
      rw [← e]
      exact hmg0
    have T : Hs.Tx K mg := ⟨c, e, ⟨h, KX, G⟩⟩
    have e2 := hmg.symm.trans T.g_law
    cases e2
    obtain ⟨fd, hb, hF⟩ := Hs.ok_law0 (P := (PySem.Challenge.rw_heightsums_k67_whole_histories_of_walker).prog) (w := w) T
    exact ⟨K, fd, Hs.spLaw K, KX, hb, fun H a ns hl _ hS => ⟨a, ns, rfl, hS, hl, fun _ => rfl⟩, fun base _ _ => hF base⟩
