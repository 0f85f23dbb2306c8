import PyProof.Rows.All
import Wide.All
import OpenK.AllK
import Wide.FinOn
import KE.GoesMore
import KE.DataFind
import PyProof.MaxThree
import HandS.ForMost
import HandS.Walk
import HandS.TupAny
import HandS.Deep
import HandS.IsInst
import HandS.Zip
import HandS.Wide
import HandS.Defaults
import PySem.Challenge.RW_twotides_k30_whole_calm_by_rounded_thres
import HandS.Evl
import HandS.Head0
import HandS.Head1
import HandS.Head2
import HandS.HeadEnd
import HandS.HeadHook1
import HandS.HeadHook2
set_option linter.all false
set_option maxHeartbeats 1000000
namespace K30
abbrev Fr : Type := Int × Int
/-! ### lowest terms -/
def gcdI (a b : Int) : Int := ((Int.gcd a b : Nat) : Int)
def lowI (i j : Int) : Fr := (i / gcdI i j, j / gcdI i j)
theorem gcdI_nn (i j : Int) : 0 ≤ gcdI i j := Int.natCast_nonneg _
theorem gcdI_dl (i j : Int) : gcdI i j ∣ i := Int.gcd_dvd_left ..
theorem gcdI_dr (i j : Int) : gcdI i j ∣ j := Int.gcd_dvd_right ..
theorem gcdI_pos {i j : Int} (h : 1 ≤ j) : 1 ≤ gcdI i j := by
  have h1 : Int.gcd i j ≠ 0 := fun z => by
    have := (Int.gcd_eq_zero_iff.mp z).2
    omega
  unfold gcdI
  omega
theorem gcdI_le {i j : Int} (h : 1 ≤ j) : gcdI i j ≤ j := Int.le_of_dvd (by omega) (gcdI_dr i j)
theorem lowI_l (i j : Int) : (lowI i j).1 * gcdI i j = i := Int.ediv_mul_cancel (gcdI_dl i j)
theorem lowI_r (i j : Int) : (lowI i j).2 * gcdI i j = j := Int.ediv_mul_cancel (gcdI_dr i j)
theorem low_aux {x g i : Int} (e : x * g = i) (hg : 1 ≤ g) (h : 1 ≤ i) : 1 ≤ x ∧ x ≤ i := by
  have h1 : 0 < x := by
    refine Int.not_le.mp fun z => ?_
    have := Int.mul_nonneg (show 0 ≤ -x by omega) (show 0 ≤ g by omega)
    rw [Int.neg_mul, e] at this
    omega
  have h2 : x * 1 ≤ x * g := Int.mul_le_mul_of_nonneg_left hg (by omega)
  omega
theorem lowI_2 {i j : Int} (h : 1 ≤ j) : 1 ≤ (lowI i j).2 ∧ (lowI i j).2 ≤ j := low_aux (lowI_r i j) (gcdI_pos h) h
theorem lowI_1 {i j : Int} (h : 1 ≤ j) (hi : 1 ≤ i) : 1 ≤ (lowI i j).1 ∧ (lowI i j).1 ≤ i := low_aux (lowI_l i j) (gcdI_pos h) hi
theorem lowI_1pos {i j : Int} (h : 1 ≤ j) (hi : 1 ≤ (lowI i j).1) : 1 ≤ i := by
  have e := lowI_l i j
  have g := gcdI_pos (i := i) h
  have := Int.mul_le_mul_of_nonneg_left g (show 0 ≤ (lowI i j).1 by omega)
  omega
theorem lowI_gcd {i j : Int} (h : 1 ≤ j) : Int.gcd (lowI i j).1 (lowI i j).2 = 1 := by
  have g := gcdI_pos (i := i) h
  have e : Int.gcd (i / (Int.gcd i j : Nat)) (j / (Int.gcd i j : Nat)) = 1 := Int.gcd_ediv_gcd_ediv_gcd (by unfold gcdI at g; omega)
  exact e
theorem gcd_zero_r (i : Int) : gcdI i 0 = (i.natAbs : Int) := by
  unfold gcdI
  rw [Int.gcd_zero_right]
theorem gcd_step {a b : Int} : Int.gcd b (a % b) = Int.gcd a b := by
  have e : a % b + b * (a / b) = a := by
    have := Int.mul_ediv_add_emod a b
    omega
  have h := Int.gcd_add_mul_left_right b (a % b) (a / b)
  rw [e, Int.gcd_comm] at h
  exact h.symm
theorem gcd_abs (i j : Int) : Int.gcd (if i < 0 then -i else i) (if j < 0 then -j else j) = Int.gcd i j := by
  split <;> split <;> simp
theorem low_id {q : Fr} (h : Int.gcd q.1 q.2 = 1) : lowI q.1 q.2 = q := by
  unfold lowI gcdI
  rw [h]
  simp
/-! ### rounding up -/
def upI (g : Int) (q : Fr) : Int := -(-(lowI (q.1 * g) q.2).1 / (lowI (q.1 * g) q.2).2)
def upL (g : Int) (q : Fr) : Int := 0 - (0 - q.1 * g) / q.2
theorem up_eq {g : Int} {q : Fr} (h : 1 ≤ q.2) : upI g q = upL g q := by
  have e1 := lowI_l (q.1 * g) q.2
  have e2 := lowI_r (q.1 * g) q.2
  have hg := gcdI_pos (i := q.1 * g) h
  unfold upI upL
  have e3 : (0 - q.1 * g) / q.2 = -(lowI (q.1 * g) q.2).1 / (lowI (q.1 * g) q.2).2 := by
    conv => lhs; rw [← e1]
    conv => lhs; rhs; rw [← e2]
    rw [show (0 - (lowI (q.1 * g) q.2).1 * gcdI (q.1 * g) q.2) = (-(lowI (q.1 * g) q.2).1) * gcdI (q.1 * g) q.2 by rw [Int.neg_mul]; omega]
    exact Int.mul_ediv_mul_of_pos_left _ _ (by omega)
  rw [e3]
  omega
theorem upL_le {g c : Int} {q : Fr} (h : 1 ≤ q.2) : upL g q ≤ c ↔ q.1 * g ≤ c * q.2 := by
  unfold upL
  have e : -c ≤ (0 - q.1 * g) / q.2 ↔ -c * q.2 ≤ (0 - q.1 * g) := Int.le_ediv_iff_mul_le (by omega)
  rw [Int.neg_mul] at e
  constructor
  · intro z
    have := e.mp (by omega)
    omega
  · intro z
    have := e.mpr (by omega)
    omega
def frLe (p q : Fr) : Prop := p.1 * q.2 ≤ q.1 * p.2
theorem upL_mono {g : Int} {p q : Fr} (hg : 1 ≤ g) (hp : 1 ≤ p.2) (hq : 1 ≤ q.2) (h : frLe p q) : upL g p ≤ upL g q := by
  refine (upL_le hp).mpr ?_
  have h1 : q.1 * g ≤ upL g q * q.2 := (upL_le hq).mp (Int.le_refl _)
  have h2 : p.1 * q.2 ≤ q.1 * p.2 := h
  refine Int.le_of_mul_le_mul_right (a := q.2) ?_ (by omega)
  have h3 := Int.mul_le_mul_of_nonneg_right h2 (show 0 ≤ g by omega)
  have h4 := Int.mul_le_mul_of_nonneg_right h1 (show 0 ≤ p.2 by omega)
  calc p.1 * g * q.2 = p.1 * q.2 * g := by rw [Int.mul_assoc, Int.mul_comm g, ← Int.mul_assoc]
    _ ≤ q.1 * p.2 * g := h3
    _ = q.1 * g * p.2 := by rw [Int.mul_assoc, Int.mul_comm p.2, ← Int.mul_assoc]
    _ ≤ upL g q * q.2 * p.2 := h4
    _ = upL g q * p.2 * q.2 := by rw [Int.mul_assoc, Int.mul_comm q.2, ← Int.mul_assoc]
theorem upL_pos {g : Int} {q : Fr} (hg : 1 ≤ g) (h1 : 1 ≤ q.1) (h2 : 1 ≤ q.2) : 1 ≤ upL g q := by
  refine Int.not_lt.mp fun z => ?_
  have := (upL_le (g := g) (c := 0) h2).mp (by omega)
  have h3 := Int.mul_le_mul_of_nonneg_left hg (show 0 ≤ q.1 by omega)
  omega
theorem frLe_trans {p q r : Fr} (hp : 1 ≤ p.2) (hq : 1 ≤ q.2) (hr : 1 ≤ r.2) (a : frLe p q) (b : frLe q r) : frLe p r := by
  unfold frLe at *
  refine Int.le_of_mul_le_mul_right (a := q.2) ?_ (by omega)
  have h3 := Int.mul_le_mul_of_nonneg_right a (show 0 ≤ r.2 by omega)
  have h4 := Int.mul_le_mul_of_nonneg_right b (show 0 ≤ p.2 by omega)
  calc p.1 * r.2 * q.2 = p.1 * q.2 * r.2 := by rw [Int.mul_assoc, Int.mul_comm r.2, ← Int.mul_assoc]
    _ ≤ q.1 * p.2 * r.2 := h3
    _ = q.1 * r.2 * p.2 := by rw [Int.mul_assoc, Int.mul_comm p.2, ← Int.mul_assoc]
    _ ≤ r.1 * q.2 * p.2 := h4
    _ = r.1 * p.2 * q.2 := by rw [Int.mul_assoc, Int.mul_comm q.2, ← Int.mul_assoc]
theorem frLe_refl (p : Fr) : frLe p p := Int.le_refl _
/-! ### what runs -/
def runs (us : List Int) (u : Int) : Int := (((us.filter fun x => decide (x ≤ u)).length : Nat) : Int)
def fbI (us : List Int) (far : Int) : Option Int := us.find? fun u => decide (2 * u ≤ runs us u * far)
def CalmU (us : List Int) (far : Int) : Prop := ∀ (p : Nat) (h : p < us.length), ((p : Int) + 1) * far < 2 * us[p]
theorem count_at {us : List Int} (hs : us.Pairwise (· ≤ ·)) {p : Nat} (h : p < us.length) : p + 1 ≤ (us.filter fun x => decide (x ≤ us[p])).length := by
  have e : us = us.take (p + 1) ++ us.drop (p + 1) := (List.take_append_drop _ _).symm
  have h1 : (us.take (p + 1)).filter (fun x => decide (x ≤ us[p])) = us.take (p + 1) := by
    refine List.filter_eq_self.mpr fun x hx => ?_
    obtain ⟨i, hi, e2⟩ := List.mem_iff_getElem.mp hx
    have hi' : i < p + 1 := by
      rw [List.length_take] at hi
      omega
    rw [List.getElem_take] at e2
    refine decide_eq_true ?_
    rw [← e2]
    by_cases q : i = p
    · subst q
      exact Int.le_refl _
    · exact List.pairwise_iff_getElem.mp hs i p (by omega) h (by omega)
  have h2 : (us.filter fun x => decide (x ≤ us[p])) = (us.take (p + 1)).filter (fun x => decide (x ≤ us[p])) ++ (us.drop (p + 1)).filter (fun x => decide (x ≤ us[p])) := by
    rw [← List.filter_append, List.take_append_drop]
  rw [h2, h1, List.length_append, List.length_take]
  omega
theorem at_count {us : List Int} (hs : us.Pairwise (· ≤ ·)) {u : Int} {c : Nat} (hc : (us.filter fun x => decide (x ≤ u)).length = c + 1) (h : c < us.length) : us[c] ≤ u := by
  refine Int.not_lt.mp fun z => ?_
  have h1 : (us.drop c).filter (fun x => decide (x ≤ u)) = [] := by
    refine List.filter_eq_nil_iff.mpr fun x hx => ?_
    obtain ⟨i, hi, e2⟩ := List.mem_iff_getElem.mp hx
    rw [List.getElem_drop] at e2
    rw [List.length_drop] at hi
    have : us[c] ≤ us[c + i] := by
      by_cases q : i = 0
      · subst q
        exact Int.le_refl _
      · exact List.pairwise_iff_getElem.mp hs c (c + i) h (by omega) (by omega)
    rw [← e2]
    simp only [decide_eq_true_eq]
    omega
  have h2 : (us.filter fun x => decide (x ≤ u)) = (us.take c).filter (fun x => decide (x ≤ u)) ++ (us.drop c).filter (fun x => decide (x ≤ u)) := by
    rw [← List.filter_append, List.take_append_drop]
  have h3 := List.length_filter_le (fun x => decide (x ≤ u)) (us.take c)
  rw [h2, h1, List.append_nil] at hc
  rw [List.length_take] at h3
  omega
theorem calm_none {us : List Int} {far : Int} (hs : us.Pairwise (· ≤ ·)) (hf : 0 ≤ far) : fbI us far = none ↔ CalmU us far := by
  unfold fbI
  rw [List.find?_eq_none]
  constructor
  · intro h p hp
    have h1 := h us[p] (List.getElem_mem hp)
    simp only [decide_eq_true_eq] at h1
    have h2 := count_at hs hp
    have h3 : ((p : Int) + 1) * far ≤ runs us us[p] * far := Int.mul_le_mul_of_nonneg_right (by unfold runs; omega) hf
    omega
  · intro h u hu z
    simp only [decide_eq_true_eq] at z
    obtain ⟨i, hi, e⟩ := List.mem_iff_getElem.mp hu
    have hpos : 0 < (us.filter fun x => decide (x ≤ u)).length := List.length_pos_of_mem (List.mem_filter.mpr ⟨hu, decide_eq_true (Int.le_refl u)⟩)
    obtain ⟨c, hc⟩ : ∃ c, (us.filter fun x => decide (x ≤ u)).length = c + 1 := ⟨_, (Nat.succ_pred_eq_of_pos hpos).symm⟩
    have hcl : c < us.length := by
      have := List.length_filter_le (fun x => decide (x ≤ u)) us
      omega
    have h1 := at_count hs hc hcl
    have h2 := h c hcl
    have h3 : runs us u = (c : Int) + 1 := by
      unfold runs
      rw [hc]
      omega
    rw [h3] at z
    omega
theorem calm_lt {us : List Int} {far : Int} (hs : us.Pairwise (· ≤ ·)) (hf : 0 ≤ far) (h : CalmU us far) {u : Int} (hu : u ∈ us) : runs us u * far < 2 * u := by
  have h1 := List.find?_eq_none.mp ((calm_none hs hf).mpr h) u hu
  simp only [decide_eq_true_eq] at h1
  omega
theorem runs_le (us : List Int) (u : Int) : 0 ≤ runs us u ∧ runs us u ≤ us.length := by
  have := List.length_filter_le (fun x => decide (x ≤ u)) us
  unfold runs
  omega
/-! ### widths, grains, rooms -/
def Wd : List Int := [0, 1, 2, 3, 4, 5, 6, 12]
def grn (w o : Int) : Int := if w = 0 ∨ o = 0 then (if o > w then o else w) else w / gcdI w o * o
theorem grn_all : (Wd.all fun w => Wd.all fun o => (decide (w = 0) && decide (o = 0)) || (decide (1 ≤ grn w o) && decide (grn w o ≤ 60) && (decide (w = 0) || decide (grn w o % w = 0)) && (decide (o = 0) || decide (grn w o % o = 0)))) = true := by decide
theorem grn_ok {w o : Int} (hw : w ∈ Wd) (ho : o ∈ Wd) (h : ¬ (w = 0 ∧ o = 0)) : 1 ≤ grn w o ∧ grn w o ≤ 60 ∧ (w = 0 ∨ w ∣ grn w o) ∧ (o = 0 ∨ o ∣ grn w o) := by
  have h1 := List.all_eq_true.mp (List.all_eq_true.mp grn_all w hw) o ho
  simp only [Bool.or_eq_true, Bool.and_eq_true, decide_eq_true_eq] at h1
  rcases h1 with h1 | ⟨⟨⟨h1, h2⟩, h3⟩, h4⟩
  · exact absurd h1 h
  · exact ⟨h1, h2, h3.imp id fun z => Int.dvd_of_emod_eq_zero z, h4.imp id fun z => Int.dvd_of_emod_eq_zero z⟩
theorem Wd_le {w : Int} (h : w ∈ Wd) : 0 ≤ w ∧ w ≤ 12 := by
  have h1 : (Wd.all fun w => decide (0 ≤ w) && decide (w ≤ 12)) = true := by decide
  have := List.all_eq_true.mp h1 w h
  simp only [Bool.and_eq_true, decide_eq_true_eq] at this
  exact this
def rm1 (s : Fr) (g : Int) : Int := if 0 < s.1 then s.2 * (g / s.1) else 0
def sw1 (s : Fr) (g : Int) : Int := if 0 < s.1 then s.2 * g / s.1 else 0
def roomI (s o : Fr) (g : Int) : Int := rm1 s g + rm1 o g
def swI (s o : Fr) (g : Int) : Int := sw1 s g + sw1 o g
theorem sw1_eq {s : Fr} {g : Int} (h : s.1 = 0 ∨ s.1 ∣ g) : sw1 s g = rm1 s g := by
  unfold sw1 rm1
  split
  · rename_i h0
    rcases h with z | z
    · omega
    · exact Int.mul_ediv_assoc _ z
  · rfl
theorem rm1_le {s : Fr} {g : Int} (h1 : 1 ≤ s.2) (h2 : s.2 ≤ 6) (hg : 1 ≤ g) (hg2 : g ≤ 60) : 0 ≤ rm1 s g ∧ rm1 s g ≤ 360 := by
  unfold rm1
  split
  · rename_i h0
    have a : 0 ≤ g / s.1 := Int.ediv_nonneg (by omega) (by omega)
    have b : g / s.1 ≤ g := Int.ediv_le_self _ (by omega)
    have c : 0 ≤ s.2 * (g / s.1) := Int.mul_nonneg (by omega) a
    have d : s.2 * (g / s.1) ≤ 6 * (g / s.1) := Int.mul_le_mul_of_nonneg_right h2 a
    omega
  · omega
/-! ### books -/
def SortOk (s : Fr) : Prop := s.1 ∈ Wd ∧ 1 ≤ s.2 ∧ s.2 ≤ 6
def SortsOk (ss : List Fr) : Prop := 1 ≤ ss.length ∧ ss.length ≤ 4 ∧ (∀ s ∈ ss, SortOk s) ∧ (ss.filter fun s => decide (s.1 = 0)).length ≤ 1
def sAt (ss : List Fr) (i : Int) : Fr := ss.getD i.toNat (0, 0)
def JoinOk (ss : List Fr) (j : Fr) : Prop := 0 ≤ j.1 ∧ j.1 ≤ j.2 ∧ j.2 < (ss.length : Int) ∧ (0 < (sAt ss j.1).1 ∨ 0 < (sAt ss j.2).1)
def FrOk (q : Fr) : Prop := 1 ≤ q.1 ∧ q.1 ≤ 1000000 ∧ 1 ≤ q.2 ∧ q.2 ≤ 144 ∧ Int.gcd q.1 q.2 = 1
def LsOk (l : List Fr) : Prop := 1 ≤ l.length ∧ l.length ≤ 6 ∧ (∀ q ∈ l, FrOk q) ∧ l.Pairwise frLe
def lexlt (a b : Fr) : Prop := a.1 < b.1 ∨ (a.1 = b.1 ∧ a.2 < b.2)
abbrev Kd : Type := List Fr × List Fr
def KindOk (ss : List Fr) (k : Kd) : Prop := LsOk k.1 ∧ k.2 ≠ [] ∧ k.2.length ≤ 16 ∧ (∀ j ∈ k.2, JoinOk ss j) ∧ k.2.Pairwise lexlt
def KindsOk (ss : List Fr) (ks : List Kd) : Prop := ks.length ≤ 5 ∧ ∀ k ∈ ks, KindOk ss k
theorem sAt_get {ss : List Fr} {i : Int} (h0 : 0 ≤ i) (h : i < (ss.length : Int)) : ss[i.toNat]? = some (sAt ss i) := by
  unfold sAt
  rw [List.getD_eq_getElem?_getD, List.getElem?_eq_getElem (by omega)]
  rfl
theorem sAt_mem {ss : List Fr} {i : Int} (h0 : 0 ≤ i) (h : i < (ss.length : Int)) : sAt ss i ∈ ss := List.mem_of_getElem? (sAt_get h0 h)
theorem join_sorts {ss : List Fr} {j : Fr} (hs : SortsOk ss) (h : JoinOk ss j) : SortOk (sAt ss j.1) ∧ SortOk (sAt ss j.2) ∧ ¬ ((sAt ss j.1).1 = 0 ∧ (sAt ss j.2).1 = 0) := by
  obtain ⟨h1, h2, h3, h4⟩ := h
  refine ⟨hs.2.2.1 _ (sAt_mem h1 (by omega)), hs.2.2.1 _ (sAt_mem (by omega) h3), ?_⟩
  omega
/-- grains and room of a pair of sorts -/
def gP (ss : List Fr) (j : Fr) : Int := grn (sAt ss j.1).1 (sAt ss j.2).1
def rP (ss : List Fr) (j : Fr) : Int := roomI (sAt ss j.1) (sAt ss j.2) (gP ss j)
def CalmP (ss : List Fr) (ks : List Kd) : Prop := ∀ k ∈ ks, ∀ j ∈ k.2, CalmU (k.1.map (upL (gP ss j))) (rP ss j)
theorem gP_ok {ss : List Fr} {j : Fr} (hs : SortsOk ss) (h : JoinOk ss j) : 1 ≤ gP ss j ∧ gP ss j ≤ 60 := by
  obtain ⟨a, b, c⟩ := join_sorts hs h
  have := grn_ok a.1 b.1 c
  exact ⟨this.1, this.2.1⟩
theorem rP_sw {ss : List Fr} {j : Fr} (hs : SortsOk ss) (h : JoinOk ss j) : swI (sAt ss j.1) (sAt ss j.2) (gP ss j) = rP ss j := by
  obtain ⟨a, b, c⟩ := join_sorts hs h
  have := grn_ok a.1 b.1 c
  have e1 : sw1 (sAt ss j.1) (gP ss j) = rm1 (sAt ss j.1) (gP ss j) := sw1_eq this.2.2.1
  have e2 : sw1 (sAt ss j.2) (gP ss j) = rm1 (sAt ss j.2) (gP ss j) := sw1_eq this.2.2.2
  unfold swI rP roomI
  rw [e1, e2]
theorem rP_le {ss : List Fr} {j : Fr} (hs : SortsOk ss) (h : JoinOk ss j) : 0 ≤ rP ss j ∧ rP ss j ≤ 720 := by
  obtain ⟨a, b, c⟩ := join_sorts hs h
  obtain ⟨g1, g2⟩ := gP_ok hs h
  have h1 := rm1_le (s := sAt ss j.1) a.2.1 a.2.2 g1 g2
  have h2 := rm1_le (s := sAt ss j.2) b.2.1 b.2.2 g1 g2
  unfold rP roomI
  omega
theorem map_up {g : Int} {l : List Fr} (h : ∀ q ∈ l, FrOk q) : l.map (upI g) = l.map (upL g) := List.map_congr_left fun q hq => up_eq (h q hq).2.2.1
theorem units_mono {g : Int} (hg : 1 ≤ g) {l : List Fr} (h : LsOk l) : (l.map (upL g)).Pairwise (· ≤ ·) := by
  refine List.pairwise_map.mpr ?_
  refine List.Pairwise.imp_of_mem (fun {a b} ha hb hab => ?_) h.2.2.2
  exact upL_mono hg (h.2.2.1 a ha).2.2.1 (h.2.2.1 b hb).2.2.1 hab
theorem units_pos {g : Int} (hg : 1 ≤ g) (hg2 : g ≤ 60) {l : List Fr} (h : ∀ q ∈ l, FrOk q) {u : Int} (hu : u ∈ l.map (upL g)) : 1 ≤ u ∧ u ≤ 60000000 := by
  obtain ⟨q, hq, e⟩ := List.mem_map.mp hu
  have f := h q hq
  subst e
  refine ⟨upL_pos hg f.1 f.2.2.1, (upL_le f.2.2.1).mpr ?_⟩
  have h1 : q.1 * g ≤ 1000000 * g := Int.mul_le_mul_of_nonneg_right f.2.1 (by omega)
  have h2 : 60000000 * 1 ≤ 60000000 * q.2 := Int.mul_le_mul_of_nonneg_left f.2.2.1 (by omega)
  omega
theorem perm_erase {α : Type} : ∀ {l : List α} {j : Nat} {x : α}, l[j]? = some x → l.Perm (x :: l.eraseIdx j)
  | [], _, _, h => by simp at h
  | a :: r, 0, x, h => by
    have e : a = x := Option.some.inj h
    subst e
    exact List.Perm.refl _
  | a :: r, j + 1, x, h => (List.Perm.cons a (perm_erase (l := r) h)).trans (List.Perm.swap x a _)
theorem mem_erase {α : Type} {l : List α} {j : Nat} {x y : α} (h : l[j]? = some x) (hy : y ∈ l.eraseIdx j) : y ∈ l := (perm_erase h).mem_iff.mpr (List.mem_cons_of_mem _ hy)
theorem len_erase1 {α : Type} {l : List α} {j : Nat} {x : α} (h : l[j]? = some x) : (l.eraseIdx j).length + 1 = l.length := (perm_erase h).length_eq.symm
end K30
set_option Elab.async false
set_option linter.all false
set_option maxRecDepth 100000
set_option maxHeartbeats 4000000
namespace K30
open PySem PySem.Spec PyProof.Rows L2

/-! ### rules that the layer lacks -/
section
variable {X : Cx}
/-- max of three whole numbers -/
def mx3 (i j k : Int) : Int := if j > i then (if k > j then k else j) else (if k > i then k else i)
theorem call_max3 (hc : X.calm = true) : CallR X (.builtin "max") (fun xs H Q => ∃ i j k, xs = [.int i, .int j, .int k] ∧ Q (.int (mx3 i j k)) H) := by
  intro pins s σ H xs us Q I r h
  obtain ⟨i, j, k, rfl, q⟩ := h
  cases r with
  | cons r1 rr =>
    cases rr with
    | cons r2 rr =>
      cases rr with
      | cons r3 rr =>
        cases rr
        obtain ⟨t1, rfl⟩ := r1
        obtain ⟨t2, rfl⟩ := r2
        obtain ⟨t3, rfl⟩ := r3
        refine max_three_ints (I.ok.hd hc) fun h' tk kk => ⟨_, H, I.kept kk, ?_, q⟩
        unfold mx3
        by_cases h1 : j > i
        · rw [if_pos h1, if_pos h1]
          by_cases h2 : k > j
          · rw [if_pos h2, if_pos h2]; exact ⟨_, rfl⟩
          · rw [if_neg h2, if_neg h2]; exact ⟨_, rfl⟩
        · rw [if_neg h1, if_neg h1]
          by_cases h2 : k > i
          · rw [if_pos h2, if_pos h2]; exact ⟨_, rfl⟩
          · rw [if_neg h2, if_neg h2]; exact ⟨_, rfl⟩

variable {a b c d e : Expr} {ta tb tc td te : TE} {pos : Pos}
/-- a op b op' c op'' d, as a test -/
def tChain3 (r r' r'' : R2) (ta tb tc td : TE) : TE := fun σ H Q => ta σ H fun x H1 => tb σ H1 fun y H2 => r x y H2 fun z H3 => ∃ k, z = .bl k ∧
  (if k = true then tc σ H3 fun w' H4 => r' y w' H4 fun z' H5 => ∃ k', z' = .bl k' ∧ (if k' = true then td σ H5 fun u' H6 => r'' w' u' H6 Q else Q (.bl false) H5) else Q (.bl false) H3)
theorem pt_chain3 {op op' op'' : CmpOp} {r r' r'' : R2} (ho : OpR X (compareOp op) r) (ho' : OpR X (compareOp op') r') (ho'' : OpR X (compareOp op'') r'') (ha : PE X a ta) (hb : PE X b tb) (hc : PE X c tc) (hd : PE X d td)
    (hm : lastMarks [op, op', op''] [b, c, d] = false := by with_unfolding_all rfl) : PT X (.Compare a [op, op', op''] [b, c, d] pos) (tTest (tChain3 r r' r'' ta tb tc td)) := by
  refine ⟨fun pins s σ H Q I h => ?_⟩
  refine isTrue_chain (thn (ha.run pins s σ H _ I h) fun v s1 ⟨x, H1, I1, r1, q1⟩ => test_link (thn (hb.run pins s1 σ H1 _ I1 q1) fun u s2 ⟨y, H2, I2, r2, q2⟩ =>
    thn (ho pins s2 σ H2 x y v u _ I2 r1 r2 q2) fun d1 s3 ⟨z, H3, I3, r3, k, e1, q3⟩ => ?_)) hm
  subst e1
  cases r3
  refine wpAny_truthy_bool ?_
  cases k with
  | false =>
    obtain ⟨k', e', q'⟩ := q3
    cases e'
    exact ite_ff ⟨H3, I3, q'⟩
  | true =>
    refine ite_tt (test_link (thn (hc.run pins s3 σ H3 _ I3 q3) fun w' s4 ⟨z', H4, I4, r4, q4⟩ => thn (ho' pins s4 σ H4 y z' u w' _ I4 r2 r4 q4) fun d2 s5 ⟨z2, H5, I5, r5, k2, e2, q5⟩ => ?_))
    subst e2
    cases r5
    refine wpAny_truthy_bool ?_
    cases k2 with
    | false =>
      obtain ⟨k', e', q'⟩ := q5
      cases e'
      exact ite_ff ⟨H5, I5, q'⟩
    | true =>
      refine ite_tt (test_last (thn (hd.run pins s5 σ H5 _ I5 q5) fun w2 s6 ⟨z3, H6, I6, r6, q6⟩ => thn (ho'' pins s6 σ H6 z' z3 w' w2 _ I6 r4 r6 q6) fun d3 s7 ⟨z4, H7, I7, r7, k3, e3, q7⟩ => ?_))
      subst e3
      cases r7
      exact wpAny_truthy_bool ⟨H7, I7, q7⟩

/-- a module's whole number -/
theorem pe_num {x : Str} {i : Int} {p : Pos} (hg : Gl X x) (hm : ∃ t, X.mg x = some (.int i t)) (hd : (x == ("__debug__" : Str)) = false := by decide) : PE X (.Name x p) (tC (.int i)) := by
  obtain ⟨t, hm⟩ := hm
  exact pe_glob hg hm ⟨t, rfl⟩ hd

/-- xs.remove(e), e equal to the item at j and to none ahead of it -/
def rRemD (K : PySem.W.Frag) : V → List V → Hp → VK → Prop := fun x vs H Q => ∃ l zs y d ds j, x = .ref l ∧ vs = [y] ∧ H l = some (.lst zs) ∧ DpAll K H zs ds ∧ Dp K H y d ∧ PyData.plainAll ds = true ∧ d.plain = true ∧ d.depth ≤ 32 ∧
  SeqAt.dataPlace ds d = some j ∧ Q .non (upd H l (.lst (zs.eraseIdx j)))
theorem mt_removeD (hu : X.A.units + 64 < cLine) : MtR X "list.remove" (rRemD X.K) := by
  intro pins s σ H x xs v us Q I rx rv h
  obtain ⟨l, zs, y, dd, ds, j, rfl, rfl, hH, hz, hy, pz, pd, dz, hj, q⟩ := h
  cases rx
  obtain ⟨u, rfl, ru⟩ := rv.one
  obtain ⟨z, its, n, r, hl, e0⟩ := I.lstM hH
  obtain ⟨as, r1⟩ := Dp.reads I dd y u hy ru
  obtain ⟨bs, r2⟩ := Dp.readsAll I ds zs its hz r
  refine SeqAt.remove_list_data (vs := its.toArray) (j := j) ⟨_, e0, rfl, _, rfl⟩ r2 r1 pz pd (by omega) hj (by rw [List.size_toArray]; omega) ?_
  refine ⟨.non, _, I.lset (its' := its.eraseIdx j) (f := fun ys => ys.eraseIdxIfInBounds j) hH e0 ?_ (r.eraseIdx j) ?_, rfl, q⟩
  · show its.toArray.eraseIdxIfInBounds j = (its.eraseIdx j).toArray
    rw [List.eraseIdxIfInBounds_toArray]
  · have := len_erase zs j
    omega
end

/-! ### enumerate of a tuple -/
section
set_option maxHeartbeats 8000000
theorem meets_enumerate_newT (l : Addr) (items : Array Value) :
    Meets (Builtin.«enumerate.__new__» ⟨[.type "enumerate", .ref l], []⟩) (fun _ R s => s.heap.IsTuple l items ∧
      R (.ok (.ret (.ref (s.heap.push { cls := .type "tuple_iterator", data := .fields #[.ref l, .int 0 0] }).objs.size)))
        { s with heap := (s.heap.push { cls := .type "tuple_iterator", data := .fields #[.ref l, .int 0 0] }).push { cls := .type "enumerate", data := .fields #[.none, .bool false, .ref s.heap.objs.size, rawInt 0, .none, .none] } }) :=
  .of_wp fun prog w A R s h => by
    obtain ⟨hp, g, d, tk, os⟩ := s; obtain ⟨h1, h⟩ := h
    have hsub := sub_enumerate
    have q1 : ∀ {A' : Around} {E : Value → Shared → Prop} {Q : Value → Shared → Prop}, Q (.ref hp.objs.size) ⟨hp.push { cls := .type "tuple_iterator", data := .fields #[.ref l, .int 0 0] }, g, d, tk, os⟩ → wpAny (model prog w) A' (pyIter (.ref l)) Q E ⟨hp, g, d, tk, os⟩ :=
      fun q => wpAny_pyIter_tuple (s := ⟨hp, g, d, tk, os⟩) h1 q
    wp_walk using q1
    refine wpAny_stack_any fun st => wpAny_pure ?_
    split
    · rename_i c _ _ _ _ _
      cases (c == Value.type "enumerate")
      · wp_walk using q1
        exact ⟨_, rfl, h⟩
      · wp_walk using q1
        exact ⟨_, rfl, h⟩
    · wp_walk using q1
      exact ⟨_, rfl, h⟩
end
section
variable {prog : Program} {w : World} {A : Around} {E : Value → Shared → Prop} {s : Shared}
theorem call_enumerate_tup {l : Addr} {items : Array Value} {Q : Value → Shared → Prop} (hL : s.heap.IsTuple l items)
    (h : ∀ h', IsEnum h' (s.heap.objs.size + 1) s.heap.objs.size 0 .none → h'.IsTupleIter s.heap.objs.size l 0 → h'.objs.size = s.heap.objs.size + 2 →
      (∀ b o, s.heap.get? b = some o → h'.get? b = some o) → Q (.ref (s.heap.objs.size + 1)) { s with heap := h' }) :
    wpAny (model prog w) A (call (.type "enumerate") [.ref l]) Q E s := by
  refine callType_new F.called_enumerate (by decide) (F.typeCall_enumerate_1 _) (F.newCall_enumerate_1 _) (fun obj => F.args_object_init_2 obj _) F.entry_enumerate_new
    (meets_enumerate_newT l items) ⟨hL, ?_⟩
  have hz : (s.heap.push { cls := .type "tuple_iterator", data := .fields #[.ref l, .int 0 0] }).objs.size = s.heap.objs.size + 1 := Heap.size_push ..
  show _ ∧ _
  rw [hz]
  have he : IsEnum ((s.heap.push { cls := .type "tuple_iterator", data := .fields #[.ref l, .int 0 0] }).push
      { cls := .type "enumerate", data := .fields #[.none, .bool false, .ref s.heap.objs.size, rawInt 0, .none, .none] }) (s.heap.objs.size + 1) s.heap.objs.size 0 .none := by
    have := Heap.get?_push_size (s.heap.push { cls := .type "tuple_iterator", data := .fields #[.ref l, .int 0 0] })
      (o := { cls := .type "enumerate", data := .fields #[.none, .bool false, .ref s.heap.objs.size, rawInt 0, .none, .none] }) rfl
    rw [hz] at this; exact this
  refine ⟨⟨_, he, rfl⟩, h _ he ⟨_, Heap.get?_push_of_some _ (Heap.get?_push_size _ rfl), rfl, rfl⟩ (by rw [Heap.size_push, hz]) fun b o x => Heap.get?_push_of_some _ (Heap.get?_push_of_some _ x)⟩
end
/-- the tuple at a, each item in a new pair -/
def IteT (K : PySem.W.Frag) (a : Addr) : It :=
  ⟨fun i H => ∃ (xs : List V) (x : V), SqT K H a xs ∧ xs[i]? = some x, fun i H v H' => ∃ T x, v = .ref T ∧ H T = none ∧ H' = upd H T (.tup [.int (i : Nat), x]) ∧ ∀ xs, SqT K H a xs → xs[i]? = some x, fun i H => ∃ xs : List V, SqT K H a xs ∧ xs.length ≤ i⟩
theorem turn_enumT {P : Program} {w : World} {K : PySem.W.Frag} {elts : List Expr} {kk : Nat} {tpos : Pos} (a e it : Addr) :
    Turn P w K (.Tuple elts kk tpos) (IteT K a) [e, it] e (fun i h => (∃ old, IsEnum h e it ((i : Nat) : Int) old) ∧ h.IsTupleIter it a i ∧ e ≠ it) where
  mem := by simp
  obj := fun i h st b hb => by
    obtain ⟨⟨old, he⟩, ⟨o, ho, hc, hd⟩, _⟩ := st
    have e' : b = e ∨ b = it := by simpa using hb
    rcases e' with z | z
    · rw [z]; exact ⟨_, he, fun v q => nomatch q⟩
    · rw [z]; exact ⟨o, ho, fun v q => by rw [hd] at q; cases q⟩
  keep := fun i h h' st k => let ⟨⟨old, he⟩, hi, hne⟩ := st; ⟨⟨old, k e (by simp) _ he⟩, hi.at fun o q => k it (by simp) o q, hne⟩
  item := by
    intro X hP hw hK hc i pins s σ H E I hf st hg
    subst hP hw hK
    obtain ⟨⟨old, he⟩, hit, hne⟩ := st
    obtain ⟨xs, x, hq, hx⟩ := hg
    obtain ⟨its, rv, p, hz⟩ := I.tuple hq
    obtain ⟨u, hu, ru⟩ := rv.get hx
    have hel : e < s.heap.objs.size := Heap.lt_size he
    have hil : it < s.heap.objs.size := by obtain ⟨_, q, _⟩ := hit; exact Heap.lt_size q
    have hea : e ≠ a := fun z => by
      obtain ⟨o, h1, h2, _⟩ := p
      rw [← z, he] at h1
      cases h1
      exact absurd h2 (by simp)
    have hia : a ≠ it := fun z => by
      obtain ⟨o, h1, h2, _⟩ := p
      obtain ⟨o2, h3, h4, _⟩ := hit
      rw [z, h3] at h1
      cases h1
      rw [h4] at h2
      exact absurd h2 (by simp)
    have p' : s.heap.IsTuple a its.toArray := p
    have hsz : i < its.toArray.size := by
      rw [List.size_toArray]
      exact (List.getElem?_eq_some_iff.mp hu).1
    refine wpAny_pyNext_enum_itemD (Draws.tuple (A := X.A.in1) (I.ok.hd hc) it a hia its.toArray) he ⟨hit, p'⟩ hsz hne (by simp only [List.mem_cons, List.not_mem_nil, or_false, not_or]; exact ⟨hne, hea⟩) fun y h' tk hP ho hit' hT hsz' hk => ?_
    have ey : y = u := by
      have h1 : its.toArray[i]? = some y := hP
      rw [← Array.getElem?_toList] at h1
      exact Option.some.inj (h1.symm.trans hu)
    subst ey
    refine ⟨_, rfl, wpAny_letOwnedTupleGo_enum (s := { s with heap := h', toks := tk + 1 }) ho fun h'' he' sb => ?_⟩
    have hT2 : h''.get? s.heap.objs.size = some { cls := .type "tuple", data := .seq #[.int i tk, y] } := (sb.2 _ (Nat.ne_of_gt hel)).trans hT
    have new : ObjOk X.prog X.w (upd H s.heap.objs.size (.tup [.int (i : Nat), x])) h'' s.heap.objs.size (.tup [.int (i : Nat), x]) :=
      ⟨by show 2 ≤ sizeLine; decide, [.int i tk, y], .cons ⟨_, rfl⟩ (.cons ru .nil), ⟨_, hT2, rfl, _, rfl⟩⟩
    have I1 : Inv X pins σ (upd H s.heap.objs.size (.tup [.int (i : Nat), x])) { s with heap := h'', toks := tk + 1 } :=
      I.turnedNew (ch := [e, it]) (fun b ob hb q => (sb.2 b (fun z => hb (by simp [z]))).trans (hk b ob (fun z => hb (by simp [z])) (fun z => hb (by simp [z])) q)) hf (Nat.le_refl _) new
    refine ⟨.ref s.heap.objs.size, _, I1, rfl, ⟨_, x, rfl, I.hok.fresh (Nat.le_refl _), rfl, fun ys hy => by rw [I.tuple_inj hy hq]; exact hx⟩, ⟨⟨y, ?_⟩, hit'.1.at fun o q => (sb.2 it (Ne.symm hne)).trans q, hne⟩, fun b hb => ?_⟩
    · have e1 : ((i + 1 : Nat) : Int) = (i : Int) + 1 := by omega
      rw [e1]; exact he'
    · have hb' : b < s.heap.objs.size := by
        have e' : b = e ∨ b = it := by simpa using hb
        rcases e' with z | z
        · rw [z]; exact hel
        · rw [z]; exact hil
      rw [upd_ne (Nat.ne_of_lt hb')]
      exact (hf b hb).1
  done := by
    intro X hP hw hK hc i pins s σ H E I hf st hg
    subst hP hw hK
    obtain ⟨⟨old, he⟩, hit, hne⟩ := st
    obtain ⟨xs, hq, hx⟩ := hg
    obtain ⟨its, rv, p, hz⟩ := I.tuple hq
    obtain ⟨f0, f1, f2, f3, f4, f5⟩ := hf it (by simp)
    have hl := rv.length
    have hT : s.TypeIs (.ref e) "enumerate" := ⟨_, he, rfl⟩
    unfold pyNext
    refine wpAny_bind (wpAny_attempt (wpAny_callSpecial?_slot (name := Str.ofString "__next__") hT F.slot_enumerate_next
      (wpAny_call_entry F.slot_enumerate_next hT F.entry_enumerate_next ?_ (F.args_enumerate_next_1 _))))
    show wpAny _ _ (field (.ref e) 2 >>= _) _ _ _
    refine wpAny_bind (wpAny_field he rfl (x := .ref it) rfl ?_)
    refine wpAny_bind (wpAny_nextOf_tuple_end (A := X.A.in1) (I.ok.hd hc) hit (show s.heap.IsTuple a its.toArray from p) (by simp; omega) fun h' x he' hx' => ?_)
    obtain ⟨o, ho, hc'⟩ := hx'
    refine wpAny_bind (wpAny_isInstance (T := "StopIteration") (b := true) ⟨o, ho, hc'⟩ isSubtype_stop ?_)
    exact wpAny_pure ⟨rfl, I.turned (t' := s.toks) (fun b o hb q => he' b o hb q) f0 f1 f3 f4 f5⟩
  self := fun A i s Q E st h => let ⟨⟨_, he⟩, _⟩ := st; wpAny_pyIter_enum he h
def iEnumT (K : PySem.W.Frag) (ta : TA) : TI := fun σ H R => ta σ H fun vs H1 => ∃ a xs, vs = [.ref a] ∧ SqT K H1 a xs ∧ R (IteT K a) H1
theorem pi_enumT {X : Cx} {e : Expr} {ta : TA} {p pos tpos : Pos} {elts : List Expr} {kk : Nat} (hg : Gl X "enumerate") (hm : X.mg "enumerate" = none) (ha : PA X [e] ta) (hs : starEach [e] X.env = [(false, eval e X.env)] := by rfl) :
    PI X (.Tuple elts kk tpos) (.Call (.Name "enumerate" p) [e] [] pos) (iEnumT X.K ta) := by
  refine ⟨fun pins s σ H R I h => ?_⟩
  refine Call_ (ld_blt I hg hm boot_enumerate (PyProof.Rows.callWith_type1 (thn (ha.run pos pins s σ H _ I h) fun us s1 ⟨vs, H1, I1, r1, q1⟩ => ?_) hs rfl))
  obtain ⟨a, xs, ex, hq, q⟩ := q1
  subst ex
  cases r1 with
  | cons r rr =>
    cases rr
    cases r
    obtain ⟨its, rv, p', hz⟩ := I1.tuple hq
    refine call_enumerate_tup (show s1.heap.IsTuple a its.toArray from p') fun h' he hit hsz hk => wpAny_pyIter_enum he ?_
    have I2 : Inv X pins σ H1 { s1 with heap := h' } := I1.kept (t' := s1.toks) hk
    refine ⟨s1.heap.objs.size + 1, [s1.heap.objs.size + 1, s1.heap.objs.size], _, _, H1, rfl, I2, turn_enumT a (s1.heap.objs.size + 1) s1.heap.objs.size, ⟨⟨.none, he⟩, hit, Nat.succ_ne_self _⟩, fun b hb => ?_, q⟩
    have e' : b = s1.heap.objs.size + 1 ∨ b = s1.heap.objs.size := by simpa using hb
    have hle : s1.heap.objs.size ≤ b := by
      rcases e' with z | z
      · rw [z]; exact Nat.le_add_right _ _
      · rw [z]; exact Nat.le_refl _
    exact I1.fpOk hle (I1.hok.fresh hle)
theorem walk_enumT {K : PySem.W.Frag} {a : Addr} {xs : List V} : Walk (IteT K a) xs.length (fun H => SqT K H a xs) (YPair (fun i => some (.int (i : Nat))) (fun i => xs[i]?)) := by
  refine ⟨fun i _ hi q => ⟨xs, xs[i], q, by simp [hi]⟩, fun _ q => ⟨xs, q, Nat.le_refl _⟩, fun i H v H' _ q y => ?_⟩
  obtain ⟨T, x, h1, h2, h3, h4⟩ := y
  exact ⟨T, .int (i : Nat), x, h1, h2, h3, rfl, h4 xs q⟩
theorem walk_zipT {K : PySem.W.Frag} {a b : Addr} {xs ys : List V} {n : Nat} (hn : n = min xs.length ys.length) : Walk (RZ.ItzT K a b) n (fun H => SqT K H a xs ∧ SqT K H b ys) (YPair (fun i => xs[i]?) (fun i => ys[i]?)) := by
  subst hn
  refine ⟨fun i _ hi q => ?_, fun _ q => ⟨xs, ys, q.1, q.2, by omega⟩, fun i H v H' _ q y => ?_⟩
  · have h1 : i < xs.length := by omega
    have h2 : i < ys.length := by omega
    exact ⟨xs, ys, xs[i], ys[i], q.1, q.2, by simp [h1], by simp [h2]⟩
  · obtain ⟨T, x, z, h1, h2, h3, h4, h5⟩ := y
    exact ⟨T, x, z, h1, h2, h3, h4 xs q.1, h5 ys q.2⟩
end K30
set_option Elab.async false
set_option linter.all false
set_option maxRecDepth 100000
set_option maxHeartbeats 4000000
namespace K30
open PySem PySem.Spec PyProof.Rows L2
/-! ### the text by places -/
def top (i : Nat) : Stmt := PySem.Challenge.pw_twotides_k30_whole_calm_by_rounded_thres.main.body.getD i (.Pass ⟨0, 0, 0, 0⟩)
abbrev s_is_integer : Stmt := top 5
abbrev s_is_between : Stmt := top 6
abbrev s_is_pair : Stmt := top 7
abbrev s_is_row : Stmt := top 8
abbrev s_divisor : Stmt := top 10
abbrev s_multiple : Stmt := top 11
abbrev s_made : Stmt := top 12
abbrev s_is_fraction : Stmt := top 13
abbrev s_is_below : Stmt := top 14
abbrev s_next_whole : Stmt := top 15
abbrev s_is_threshold : Stmt := top 21
abbrev s_is_list : Stmt := top 22
abbrev s_is_width : Stmt := top 23
abbrev s_parts_of_grain : Stmt := top 24
abbrev s_in_grains : Stmt := top 25
abbrev s_is_sort : Stmt := top 30
abbrev s_are_sorts : Stmt := top 31
abbrev s_is_join : Stmt := top 32
abbrev s_is_kind : Stmt := top 33
abbrev s_runs_at : Stmt := top 36
abbrev s_swing : Stmt := top 38
abbrev s_grains_of : Stmt := top 39
abbrev s_first_breach : Stmt := top 40
abbrev s_sorts_at : Stmt := top 41
abbrev s_breach : Stmt := top 42
abbrev s_calm : Stmt := top 43
abbrev s_losses : Stmt := top 44
abbrev s_loss : Stmt := top 45
abbrev s__law_pool : Stmt := top 47
abbrev s__law_draw : Stmt := top 48
abbrev s__law_some : Stmt := top 49
abbrev s__law_divisor : Stmt := top 50
abbrev s__law_lowest : Stmt := top 51
abbrev s__law_grains : Stmt := top 52
abbrev s__law_room : Stmt := top 53
abbrev s__law_pair_grains : Stmt := top 54
abbrev s__law_sorts : Stmt := top 55
abbrev s__law_pairs : Stmt := top 56
abbrev s__law_list : Stmt := top 57
abbrev s__law_ascending : Stmt := top 58
abbrev s__law_parts_of_book : Stmt := top 59
abbrev s__law_is_fraction : Stmt := top 60
abbrev s__law_is_int : Stmt := top 61
abbrev s__law_flag : Stmt := top 62
abbrev s__law_raised : Stmt := top 63
abbrev s__law_is_calm : Stmt := top 64
abbrev s__law_is_right : Stmt := top 65
abbrev s__law_moved : Stmt := top 66
abbrev s_law : Stmt := top 67
abbrev s_book_init : Stmt := inClass (top 34) 0
/-! ### what the top holds: built-ins are themselves, the numbers -/
structure Blt (mg : Str → Option Value) : Prop where
  b_isinstance : mg "isinstance" = none
  b_int : mg "int" = none
  b_bool : mg "bool" = none
  b_tuple : mg "tuple" = none
  b_len : mg "len" = none
  b_all : mg "all" = none
  b_any : mg "any" = none
  b_abs : mg "abs" = none
  b_max : mg "max" = none
  b_list : mg "list" = none
  b_range : mg "range" = none
  b_zip : mg "zip" = none
  b_enumerate : mg "enumerate" = none
  b_sum : mg "sum" = none
  n_MOST_THRESHOLDS : ∃ t, mg "MOST_THRESHOLDS" = some (.int 6 t)
  n_MOST_TOP : ∃ t, mg "MOST_TOP" = some (.int 1000000 t)
  n_MOST_BOTTOM : ∃ t, mg "MOST_BOTTOM" = some (.int 144 t)
  n_MOST_WIDTH : ∃ t, mg "MOST_WIDTH" = some (.int 12 t)
  n_MOST_SORTS : ∃ t, mg "MOST_SORTS" = some (.int 4 t)
  n_MOST_KINDS : ∃ t, mg "MOST_KINDS" = some (.int 5 t)
  n_MOST_CAP : ∃ t, mg "MOST_CAP" = some (.int 6 t)
/-- a def as it stands behind the top, its name, its parameters -/
def DefAt (K : PySem.W.Frag) (mg : Str → Option Value) (x : Str) (st : Stmt) (ps : List Str) : Prop :=
  ∃ f fd, FunD K x x (defArgs st) (defBody st) (defScope st) [] [] f fd ∧ mg x = some (.ref f) ∧ Binds K fd ps []
/-- a def that keeps its promise, ready to be called -/
def Cal (P : Program) (w : World) (K : PySem.W.Frag) (mg : Str → Option Value) (base : Heap) (k : Nat) (x : Str) (ps : List Str) (sp : Sp) : Prop :=
  ∃ f fd, FnOk P w K mg base CX0 k f fd ps sp ∧ mg x = some (.ref f) ∧ PySem.W.keepIn K (.ref f) = true ∧ Binds K fd ps []
section
variable {P : Program} {w : World} {K : PySem.W.Frag} {mg : Str → Option Value} {base : Heap}
theorem cal_of {x : Str} {st : Stmt} {N ps : List Str} {k : Nat} {sp : Sp} (D : DefAt K mg x st ps) (S : FnScope N ps (defScope st)) (len : ∀ vs H Q E, sp vs H Q E → vs.length = ps.length)
    (hbody : ∀ (f : Addr) (cdv : Value) (A : Around) (outer : List Env) (s : Shared) (H : Hp) (vs : List V) (Q : VK) (E : XK), Room k (A.deeper (envOfC x (defScope st) s.heap.objs.size f cdv)) → sp vs H Q E →
      ∃ t, PSs (cxOf CX0 P w K mg base N x (defScope st) f cdv A outer s H E).nox (defBody st) t ∧ t { nx := fun _ H' => Q .non H', rt := Q } (start N vs) H) : Cal P w K mg base (k + 1) x ps sp := by
  obtain ⟨f, fd, F, g, b⟩ := D
  refine ⟨f, fd, F.ok S len fun cdv A outer s H vs Q E hr hsp => ?_, g, F.kp, b⟩
  obtain ⟨t, h, q⟩ := hbody f cdv A outer s H vs Q E hr hsp
  exact ⟨t, h.nox, q⟩
end
section
variable {X : Cx} {k k' : Nat} {x : Str} {ps : List Str} {sp : Sp} {e : Expr} {es : List Expr} {t : TA} {p pos : Pos}
theorem pe_cal (C : Cal X.prog X.w X.K X.mg X.base k x ps sp) (hr : Room k' X.A) (hk : k ≤ k') (hg : Gl X x) (ha : PA X (e :: es) t)
    (hdb : (x == ("__debug__" : Str)) = false := by decide) (hs : starEach (e :: es) X.env = (false, eval e X.env) :: starEach es X.env := by rfl) (hpl : (backTo pos (starEach es X.env)).any (·.1) = false := by rfl) :
    PE X (.Call (.Name x p) (e :: es) [] pos) (tCall sp [] E0 t) := by
  obtain ⟨f, fd, F, g, kp, b⟩ := C
  exact pe_call F (hr.mono hk) hg g kp b .nil pass0 ha hdb hs hpl
end

/-! ### promises by the number of arguments -/
def Sp1 (p : V → Hp → VK → Prop) : Sp := fun vs H Q _ => ∃ a, vs = [a] ∧ p a H Q
def Sp2 (p : V → V → Hp → VK → Prop) : Sp := fun vs H Q _ => ∃ a b, vs = [a, b] ∧ p a b H Q
def Sp3 (p : V → V → V → Hp → VK → Prop) : Sp := fun vs H Q _ => ∃ a b c, vs = [a, b, c] ∧ p a b c H Q
theorem len1 {p : V → Hp → VK → Prop} {x : Str} (vs : List V) (H : Hp) (Q : VK) (E : XK) (h : Sp1 p vs H Q E) : vs.length = [x].length := by
  obtain ⟨a, rfl, _⟩ := h
  rfl
theorem len2 {p : V → V → Hp → VK → Prop} {x y : Str} (vs : List V) (H : Hp) (Q : VK) (E : XK) (h : Sp2 p vs H Q E) : vs.length = [x, y].length := by
  obtain ⟨a, b, rfl, _⟩ := h
  rfl
theorem len3 {p : V → V → V → Hp → VK → Prop} {x y z : Str} (vs : List V) (H : Hp) (Q : VK) (E : XK) (h : Sp3 p vs H Q E) : vs.length = [x, y, z].length := by
  obtain ⟨a, b, c, rfl, _⟩ := h
  rfl

/-! ### heaps: tuples stay -/
def TS (H H' : Hp) : Prop := ∀ a xs, H a = some (.tup xs) → H' a = some (.tup xs)
theorem TS.refl (H : Hp) : TS H H := fun _ _ h => h
theorem TS.trans {H H1 H2 : Hp} (a : TS H H1) (b : TS H1 H2) : TS H H2 := fun c xs h => b c xs (a c xs h)
theorem sts {H H' : Hp} (e : Same H H') : TS H H' := fun a xs h => e a _ h
theorem same_new {H : Hp} {p : Addr} {o : HO} (h : H p = none) : Same H (upd H p o) := fun b x e => by
  rw [upd_ne (ne_of_none e h)]
  exact e
/-- something new may change -/
theorem same_mut {H H' : Hp} {p : Addr} {o : HO} (e : Same H H') (h : H p = none) : Same H (upd H' p o) := fun a u ha => by
  rw [upd_ne (ne_of_none ha h)]
  exact e a u ha

/-! ### data -/
/-- a pair of whole numbers -/
def FrV (H : Hp) (v : V) (q : Int × Int) : Prop := ∃ a, v = .ref a ∧ H a = some (.tup [.int q.1, .int q.2])
theorem FrV.up {H H' : Hp} (e : TS H H') {v : V} {q : Int × Int} (h : FrV H v q) : FrV H' v q := by
  obtain ⟨a, e1, e2⟩ := h
  exact ⟨a, e1, e _ _ e2⟩
/-- a tuple of data -/
def TpV {α : Type} (R : V → α → Prop) (H : Hp) (v : V) (xs : List α) : Prop := ∃ a vs, v = .ref a ∧ H a = some (.tup vs) ∧ Paired R vs xs
theorem TpV.up {α : Type} {R R' : V → α → Prop} {H H' : Hp} (e : TS H H') (hR : ∀ v x, R v x → R' v x) {v : V} {xs : List α} (h : TpV R H v xs) : TpV R' H' v xs := by
  obtain ⟨a, vs, e1, e2, e3⟩ := h
  exact ⟨a, vs, e1, e _ _ e2, L2.Paired.mapP e3 hR⟩
abbrev LsV (H : Hp) (v : V) (l : List (Int × Int)) : Prop := TpV (FrV H) H v l
theorem lsUp {H H' : Hp} (e : TS H H') {v : V} {l : List (Int × Int)} (h : LsV H v l) : LsV H' v l := TpV.up e (fun _ _ q => q.up e) h
def KdV (H : Hp) (v : V) (k : List (Int × Int) × List (Int × Int)) : Prop := ∃ a v1 v2, v = .ref a ∧ H a = some (.tup [v1, v2]) ∧ LsV H v1 k.1 ∧ LsV H v2 k.2
theorem KdV.up {H H' : Hp} (e : TS H H') {v : V} {k : List (Int × Int) × List (Int × Int)} (h : KdV H v k) : KdV H' v k := by
  obtain ⟨a, v1, v2, e1, e2, e3, e4⟩ := h
  exact ⟨a, v1, v2, e1, e _ _ e2, lsUp e e3, lsUp e e4⟩
abbrev KsV (H : Hp) (v : V) (ks : List (List (Int × Int) × List (Int × Int))) : Prop := TpV (KdV H) H v ks
theorem ksUp {H H' : Hp} (e : TS H H') {v : V} {l : List (List (Int × Int) × List (Int × Int))} (h : KsV H v l) : KsV H' v l := TpV.up e (fun _ _ q => q.up e) h
/-- items of paired lists -/
theorem pr_get {α β : Type} {R : α → β → Prop} : ∀ {vs : List α} {xs : List β} {i : Nat} {v : α}, Paired R vs xs → vs[i]? = some v → ∃ x, xs[i]? = some x ∧ R v x
  | _, _, _, _, .nil, e => by simp at e
  | _, _, 0, _, .cons r _, e => by simp at e; subst e; exact ⟨_, rfl, r⟩
  | _, _, i + 1, _, .cons _ t, e => by
    obtain ⟨u, h1, h2⟩ := pr_get (i := i) t (by simpa using e)
    exact ⟨u, by simpa using h1, h2⟩
theorem pr_get' {α β : Type} {R : α → β → Prop} : ∀ {vs : List α} {xs : List β} {i : Nat} {x : β}, Paired R vs xs → xs[i]? = some x → ∃ v, vs[i]? = some v ∧ R v x
  | _, _, _, _, .nil, e => by simp at e
  | _, _, 0, _, .cons r _, e => by simp at e; subst e; exact ⟨_, rfl, r⟩
  | _, _, i + 1, _, .cons _ t, e => by
    obtain ⟨u, h1, h2⟩ := pr_get' (i := i) t (by simpa using e)
    exact ⟨u, by simpa using h1, h2⟩
theorem pr_app {α β : Type} {R : α → β → Prop} : ∀ {vs ws : List α} {xs ys : List β}, Paired R vs xs → Paired R ws ys → Paired R (vs ++ ws) (xs ++ ys)
  | _, _, _, _, .nil, q => q
  | _, _, _, _, .cons r t, q => .cons r (pr_app t q)
theorem pr_one {α β : Type} {R : α → β → Prop} {v : α} {x : β} (h : R v x) : Paired R [v] [x] := .cons h .nil
theorem pr_take {α β : Type} {R : α → β → Prop} : ∀ {vs : List α} {xs : List β} (n : Nat), Paired R vs xs → Paired R (vs.take n) (xs.take n)
  | _, _, 0, _ => by simpa using Paired.nil
  | _, _, _ + 1, .nil => by simpa using Paired.nil
  | _, _, n + 1, .cons r t => by simpa using Paired.cons r (pr_take n t)
theorem pr_drop {α β : Type} {R : α → β → Prop} : ∀ {vs : List α} {xs : List β} (n : Nat), Paired R vs xs → Paired R (vs.drop n) (xs.drop n)
  | _, _, 0, r => r
  | _, _, _ + 1, .nil => by simpa using Paired.nil
  | _, _, n + 1, .cons _ t => by simpa using pr_drop n t
theorem pr_erase {α β : Type} {R : α → β → Prop} : ∀ {vs : List α} {xs : List β} (i : Nat), Paired R vs xs → Paired R (vs.eraseIdx i) (xs.eraseIdx i)
  | _, _, _, .nil => .nil
  | _, _, 0, .cons _ t => t
  | _, _, i + 1, .cons r t => .cons r (pr_erase i t)
theorem pr_len {α β : Type} {R : α → β → Prop} {vs : List α} {xs : List β} (h : Paired R vs xs) : vs.length = xs.length := Paired.length h
theorem pr_ne {α β : Type} {R : α → β → Prop} {vs : List α} {xs : List β} (h : Paired R vs xs) : vs = [] ↔ xs = [] := by
  cases h with
  | nil => simp
  | cons r t => simp
theorem z_le {n : Nat} (h : n ≤ 100000) : n ≤ sizeLine := Nat.le_trans h (by decide)
theorem z_lt {n : Nat} (h : n < 100000) : n < sizeLine := Nat.lt_of_lt_of_le h (by decide)
theorem iteD {c A B : Prop} [Decidable c] (hc : c) (h : A) : if decide c = true then A else B := by
  rw [decide_eq_true hc]
  exact iteT h
theorem iteND {c A B : Prop} [Decidable c] (hc : ¬ c) (h : B) : if decide c = true then A else B := by
  rw [decide_eq_false hc]
  exact iteF h
theorem qb {Q : VK} {H : Hp} {b c : Bool} (h : Q (.bl c) H) (e : b = c) : Q (.bl b) H := by
  rw [e]
  exact h
theorem qi {Q : VK} {H : Hp} {b c : Int} (h : Q (.int c) H) (e : b = c) : Q (.int b) H := by
  rw [e]
  exact h
theorem ts_upd {H : Hp} {d : Addr} {ys : List V} {o : HO} (h : H d = some (.lst ys)) : TS H (upd H d o) := fun a xs e => by
  rw [upd_ne (ne_of e h (by intro z; cases z))]
  exact e
/-- values by places -/
theorem vals_ext {α : Type} {ys : List V} {f : α → V} {l : List α} (hl : ys.length = l.length) (h : ∀ (i : Nat) y, ys[i]? = some y → ∃ q, l[i]? = some q ∧ y = f q) : ys = l.map f := by
  refine List.ext_getElem? fun i => ?_
  rw [List.getElem?_map]
  cases e : ys[i]? with
  | none =>
    have h1 := List.getElem?_eq_none_iff.mp e
    rw [List.getElem?_eq_none (by omega)]
    rfl
  | some y =>
    obtain ⟨q, h1, h2⟩ := h i y e
    rw [h1, h2]
    rfl
theorem pr_ext {α : Type} {R : V → α → Prop} : ∀ {ys : List V} {l : List α}, ys.length = l.length → (∀ (i : Nat) y, ys[i]? = some y → ∃ q, l[i]? = some q ∧ R y q) → Paired R ys l
  | [], [], _, _ => .nil
  | [], _ :: _, h, _ => by simp at h
  | _ :: _, [], h, _ => by simp at h
  | y :: ys, q :: l, h, f => by
    obtain ⟨q', h1, h2⟩ := f 0 y rfl
    have e : q = q' := Option.some.inj h1
    subst e
    exact .cons h2 (pr_ext (by simpa using h) fun i y' e => f (i + 1) y' e)
/-- [e for x in t], t a tuple: what each turn gives is told by R, which leans on tuples alone -/
theorem lcT {K : PySem.W.Frag} {a : Addr} {xs : List V} {σ : L2.St} {H : Hp} {te : TE} {n : Nat} {vs : List Nat} {Qd : Addr → Hp → Prop} (ha : H a = some (.tup xs)) (hz : xs.length ≤ 1000) (R : Hp → V → Nat → Prop) (hm : ∀ H H' y j, TS H H' → R H y j → R H' y j)
    (hw : ∀ x, wipe ((wipe σ vs).set n (some x)) vs = wipe σ vs)
    (hs : ∀ i x H', xs[i]? = some x → Same H H' → ∀ Q' : VK, (∀ y H2, Same H' H2 → R H2 y i → Q' y H2) → te ((wipe σ vs).set n (some x)) H' Q')
    (hd : ∀ D ys H', H D = none → Same H H' → H' D = some (.lst ys) → ys.length = xs.length → (∀ (i : Nat) y, ys[i]? = some y → R H' y i) → Qd D H') :
    ∀ D, H D = none → ∃ W : Nat → Nat → Hp → Prop, (∃ m, W 0 m (upd H D (.lst []))) ∧ ∀ i m H, W i m H →
      ((Itt K a).stop i H ∧ Qd D H) ∨ ((Itt K a).go i H ∧ ∃ Nx : Hp → Prop, (∀ H', Nx H' → ∃ m', m' < m ∧ W (i + 1) m' H') ∧ ∀ x H', (Itt K a).yld i H x H' → gName n x (wipe σ vs) H' fun σ2 H2 => wipe σ2 vs = wipe σ vs ∧ tYes σ2 H2 fun b H3 =>
        if b = true then te σ2 H3 fun y H4 => ∃ acc, H4 D = some (.lst acc) ∧ acc.length < sizeLine ∧ Nx (upd H4 D (.lst (acc ++ [y]))) else Nx H3) := fun D hD => by
  refine lc_tup (K := K) (a := a) (xs := xs) (fun i H' => Same H H' ∧ ∃ ys, H' D = some (.lst ys) ∧ ys.length = i ∧ ∀ (j : Nat) y, ys[j]? = some y → R H' y j) ⟨same_new hD, [], upd_same, rfl, fun j y z => by simp at z⟩ (fun i H' _ p => SqT.of (p.1 _ _ ha)) (fun i x H' hx p => ?_) (fun H' ⟨e, ys, h1, h2, h3⟩ => hd D ys H' hD e h1 h2 h3)
  obtain ⟨e, ys, h1, h2, h3⟩ := p
  have hi := (List.getElem?_eq_some_iff.mp hx).1
  refine ⟨hw x, hs i x H' hx e _ fun y H2 e2 r => ⟨ys, e2 _ _ h1, z_lt (by omega), same_mut (e.trans e2) hD, ys ++ [y], upd_same, by simp [h2], fun j y' hj => ?_⟩⟩
  have t2 : TS H2 (upd H2 D (.lst (ys ++ [y]))) := ts_upd (e2 _ _ h1)
  by_cases hj2 : j < ys.length
  · rw [List.getElem?_append_left hj2] at hj
    exact hm _ _ _ _ ((sts e2).trans t2) (h3 j y' hj)
  · have ej : j = ys.length := by
      have := (List.getElem?_eq_some_iff.mp hj).1
      rw [List.length_append, List.length_singleton] at this
      omega
    subst ej
    rw [List.getElem?_append_right (Nat.le_refl _), Nat.sub_self] at hj
    cases hj
    rw [h2]
    exact hm _ _ _ _ t2 r
/-- the same over a list -/
theorem lcL {K : PySem.W.Frag} {a : Addr} {xs : List V} {σ : L2.St} {H : Hp} {te : TE} {n : Nat} {vs : List Nat} {Qd : Addr → Hp → Prop} (ha : H a = some (.lst xs)) (hz : xs.length ≤ 1000) (R : Hp → V → Nat → Prop) (hm : ∀ H H' y j, TS H H' → R H y j → R H' y j)
    (hw : ∀ x, wipe ((wipe σ vs).set n (some x)) vs = wipe σ vs)
    (hs : ∀ i x H', xs[i]? = some x → Same H H' → ∀ Q' : VK, (∀ y H2, Same H' H2 → R H2 y i → Q' y H2) → te ((wipe σ vs).set n (some x)) H' Q')
    (hd : ∀ D ys H', H D = none → Same H H' → H' D = some (.lst ys) → ys.length = xs.length → (∀ (i : Nat) y, ys[i]? = some y → R H' y i) → Qd D H') :
    ∀ D, H D = none → ∃ W : Nat → Nat → Hp → Prop, (∃ m, W 0 m (upd H D (.lst []))) ∧ ∀ i m H, W i m H →
      ((Itl K a).stop i H ∧ Qd D H) ∨ ((Itl K a).go i H ∧ ∃ Nx : Hp → Prop, (∀ H', Nx H' → ∃ m', m' < m ∧ W (i + 1) m' H') ∧ ∀ x H', (Itl K a).yld i H x H' → gName n x (wipe σ vs) H' fun σ2 H2 => wipe σ2 vs = wipe σ vs ∧ tYes σ2 H2 fun b H3 =>
        if b = true then te σ2 H3 fun y H4 => ∃ acc, H4 D = some (.lst acc) ∧ acc.length < sizeLine ∧ Nx (upd H4 D (.lst (acc ++ [y]))) else Nx H3) := fun D hD => by
  refine lc_list (K := K) (a := a) (xs := xs) (fun i H' => Same H H' ∧ ∃ ys, H' D = some (.lst ys) ∧ ys.length = i ∧ ∀ (j : Nat) y, ys[j]? = some y → R H' y j) ⟨same_new hD, [], upd_same, rfl, fun j y z => by simp at z⟩ (fun i H' _ p => SqL.of (p.1 _ _ ha)) (fun i x H' hx p => ?_) (fun H' ⟨e, ys, h1, h2, h3⟩ => hd D ys H' hD e h1 h2 h3)
  obtain ⟨e, ys, h1, h2, h3⟩ := p
  have hi := (List.getElem?_eq_some_iff.mp hx).1
  refine ⟨hw x, hs i x H' hx e _ fun y H2 e2 r => ⟨ys, e2 _ _ h1, z_lt (by omega), same_mut (e.trans e2) hD, ys ++ [y], upd_same, by simp [h2], fun j y' hj => ?_⟩⟩
  have t2 : TS H2 (upd H2 D (.lst (ys ++ [y]))) := ts_upd (e2 _ _ h1)
  by_cases hj2 : j < ys.length
  · rw [List.getElem?_append_left hj2] at hj
    exact hm _ _ _ _ ((sts e2).trans t2) (h3 j y' hj)
  · have ej : j = ys.length := by
      have := (List.getElem?_eq_some_iff.mp hj).1
      rw [List.length_append, List.length_singleton] at this
      omega
    subst ej
    rw [List.getElem?_append_right (Nat.le_refl _), Nat.sub_self] at hj
    cases hj
    rw [h2]
    exact hm _ _ _ _ t2 r
/-- all of them true, none of them true -/
theorem all_t {α : Type} (l : List α) : (l.map fun _ => true).all id = true := by
  rw [List.all_map, List.all_eq_true]
  intro _ _
  rfl
theorem any_f {α : Type} (l : List α) : (l.map fun _ => false).any id = false := by
  rw [List.any_map, List.any_eq_false]
  intro _ _ z
  cases z
theorem bl_ext {ys : List V} {b : Bool} {n : Nat} (hl : ys.length = n) (h : ∀ (i : Nat) y, ys[i]? = some y → y = .bl b) : ys = ((List.range n).map fun _ => b).map V.bl := by
  rw [List.map_map]
  refine vals_ext (by rw [List.length_range]; exact hl) fun i y e => ⟨i, ?_, h i y e⟩
  have := (List.getElem?_eq_some_iff.mp e).1
  rw [List.getElem?_range (by omega)]
theorem iteNB {b : Bool} {A B : Prop} (e : b = true) (h : B) : if (!b) = true then A else B := by
  rw [e]
  exact iteF h
/-- cuts -/
theorem cut_from {xs : List V} {k : Nat} : cutV xs (some (k : Int)) none = xs.drop k := by
  unfold cutV
  rw [HT.sIx_nat, HT.sIx_none]
  by_cases h : k ≤ xs.length
  · rw [Nat.min_eq_left h, ← List.length_drop]
    exact List.take_length
  · rw [Nat.min_eq_right (by omega), Nat.sub_self, List.take_zero, List.drop_of_length_le (by omega)]
theorem cut_to {xs : List V} {k : Nat} : cutV xs none (some (k : Int)) = xs.take k := by
  unfold cutV
  rw [HT.sIx_nat, HT.sIx_none, List.drop_zero, Nat.sub_zero]
  by_cases h : k ≤ xs.length
  · rw [Nat.min_eq_left h]
  · rw [Nat.min_eq_right (by omega), List.take_length, List.take_of_length_le (by omega)]
theorem not_whole1 {n : Nat} {m : Nat} (h : 1 ≤ n) : ¬ (HT.sIx n 0 (some 1) = 0 ∧ HT.sIx n n none = m) := fun z => by
  have e : HT.sIx n 0 (some ((1 : Nat) : Int)) = min 1 n := HT.sIx_nat n 0 1
  have z1 : HT.sIx n 0 (some ((1 : Nat) : Int)) = 0 := z.1
  rw [e] at z1
  omega
theorem iteBF {b : Bool} {A B : Prop} (e : b = false) (h : B) : if b = true then A else B := by
  rw [e]
  exact iteF h
theorem iteBT {b : Bool} {A B : Prop} (e : b = true) (h : A) : if b = true then A else B := by
  rw [e]
  exact iteT h
/-! ### the same data as the library's data, for == and in -/
def fd (q : Int × Int) : PyData := .tuple [.int q.1, .int q.2]
theorem fd_lay (z : Int × Int) : (fd z).canLay0 = true := by simp [fd, PyData.canLay0, PyData.canLayAll0]
theorem fd_depth (z : Int × Int) : (fd z).depth = 1 := by simp [fd, PyData.depth, PyData.depthAll]
theorem fds_lay : ∀ zs : List (Int × Int), PyData.canLayAll0 (zs.map fd) = true
  | [] => by simp [PyData.canLayAll0]
  | z :: zs => by simp [PyData.canLayAll0, fd_lay z, fds_lay zs]
theorem fds_depth : ∀ zs : List (Int × Int), PyData.depthAll (zs.map fd) ≤ 1
  | [] => by simp [PyData.depthAll]
  | z :: zs => by
    have h1 := fds_depth zs
    have h2 := fd_depth z
    simp only [List.map_cons, PyData.depthAll]
    omega
theorem fd_shaped (z : Int × Int) : SeqAt.shaped (fd z) = true := by
  have h := fd_depth z
  show ((fd z).canLay0 && decide ((fd z).depth ≤ 64)) = true
  rw [fd_lay z, decide_eq_true (by omega)]
  rfl
theorem fds_shapedT (zs : List (Int × Int)) : SeqAt.shaped (.tuple (zs.map fd)) = true := by
  have h1 := fds_depth zs
  have h2 : PyData.depth (.tuple (zs.map fd)) ≤ 64 := by
    simp only [PyData.depth]
    omega
  have h3 : PyData.canLay0 (.tuple (zs.map fd)) = true := by
    simp only [PyData.canLay0]
    exact fds_lay zs
  show (PyData.canLay0 (.tuple (zs.map fd)) && decide (PyData.depth (.tuple (zs.map fd)) ≤ 64)) = true
  rw [h3, decide_eq_true h2]
  rfl
theorem fds_shapedL (zs : List (Int × Int)) : SeqAt.shaped (.list (zs.map fd)) = true := by
  have h1 := fds_depth zs
  have h2 : PyData.depth (.list (zs.map fd)) ≤ 64 := by
    simp only [PyData.depth]
    omega
  have h3 : PyData.canLay0 (.list (zs.map fd)) = true := by
    simp only [PyData.canLay0]
    exact fds_lay zs
  show (PyData.canLay0 (.list (zs.map fd)) && decide (PyData.depth (.list (zs.map fd)) ≤ 64)) = true
  rw [h3, decide_eq_true h2]
  rfl
theorem fd_plain (z : Int × Int) : (fd z).plain = true := by simp [fd, PyData.plain, PyData.plainAll]
theorem fds_plain : ∀ zs : List (Int × Int), PyData.plainAll (zs.map fd) = true
  | [] => by simp [PyData.plainAll]
  | z :: zs => by simp [PyData.plainAll, fd_plain z, fds_plain zs]
theorem fd_eqv (z w : Int × Int) : PyData.eqv (fd z) (fd w) = decide (z = w) := by
  obtain ⟨a, b⟩ := z
  obtain ⟨a', b'⟩ := w
  have e : PyData.eqv (fd (a, b)) (fd (a', b')) = ((a == a') && ((b == b') && true)) := by simp only [fd, PyData.eqv, PyData.eqvAll]
  rw [e]
  by_cases h : a = a'
  · by_cases h2 : b = b'
    · subst h
      subst h2
      simp
    · rw [decide_eq_false (fun q => h2 (Prod.mk.inj q).2), beq_eq_false_iff_ne.mpr h2, Bool.false_and, Bool.and_false]
  · rw [decide_eq_false (fun q => h (Prod.mk.inj q).1), beq_eq_false_iff_ne.mpr h, Bool.false_and]
theorem fd_dp {K : PySem.W.Frag} {H : Hp} {v : V} {q : Int × Int} (h : FrV H v q) : Dp K H v (fd q) := by
  obtain ⟨a, rfl, ha⟩ := h
  exact .tup (SqT.of ha) (.cons (.int _) (.cons (.int _) .nil))
theorem fds_dp {K : PySem.W.Frag} {H : Hp} : ∀ {vs : List V} {l : List (Int × Int)}, Paired (FrV H) vs l → DpAll K H vs (l.map fd)
  | _, _, .nil => .nil
  | _, _, .cons r t => .cons (fd_dp r) (fds_dp t)
/-- the book, an instance of the class at C -/
def bkf (a b : V) : List (Str × V) := putF "kinds" b (putF "sorts" a [])
theorem bkf_s (a b : V) : (bkf a b).lookup ("sorts" : Str) = some a := by
  unfold bkf
  rw [lookup_putF, if_neg (by decide +kernel), lookup_putF, if_pos rfl]
theorem bkf_k (a b : V) : (bkf a b).lookup ("kinds" : Str) = some b := by
  unfold bkf
  rw [lookup_putF, if_pos rfl]
structure BkC (K : PySem.W.Frag) (C : Addr) : Prop where
  cl : Cls K C
  nS : NoAttr K C "sorts"
  nK : NoAttr K C "kinds"
def BkV (C : Addr) (H : Hp) (v : V) (ss : List (Int × Int)) (ks : List (List (Int × Int) × List (Int × Int))) : Prop := ∃ p dx v1 v2, v = .ref p ∧ H p = some (.ins C dx (bkf v1 v2)) ∧ LsV H v1 ss ∧ KsV H v2 ks
theorem BkV.up {C : Addr} {H H' : Hp} (e : Same H H') {v : V} {ss : List (Int × Int)} {ks : List (List (Int × Int) × List (Int × Int))} (h : BkV C H v ss ks) : BkV C H' v ss ks := by
  obtain ⟨p, dx, v1, v2, e1, e2, e3, e4⟩ := h
  exact ⟨p, dx, v1, v2, e1, e _ _ e2, lsUp (sts e) e3, ksUp (sts e) e4⟩
end K30
set_option Elab.async false
set_option linter.all false
set_option maxRecDepth 100000
set_option maxHeartbeats 4000000
namespace K30
open PySem PySem.Spec PyProof.Rows L2
section
variable {P : Program} {w : World} {K : PySem.W.Frag} {mg : Str → Option Value} {base : Heap}
/-! ### checks.py -/
theorem sc_is_integer : FnScope ["thing"] ["thing"] (defScope s_is_integer) := ⟨rfl, rfl, rfl, by decide +kernel, rfl, by decide +kernel, by decide +kernel⟩
def sp_is_integer : Sp := Sp1 fun a H Q => ∃ i : Int, a = .int i ∧ Q (.bl true) H
theorem ok_is_integer (T : Blt mg) (D : DefAt K mg "is_integer" s_is_integer ["thing"]) : Cal P w K mg base 1 "is_integer" ["thing"] sp_is_integer := by
  refine cal_of D sc_is_integer len1 fun f cdv A outer s H vs Q E hr h => ?_
  obtain ⟨_, rfl, i, rfl, q⟩ := h
  refine ⟨_, (pss_one (ps_ret (pe_and (pe_callB call_isi (by rfl) T.b_isinstance (by decide +kernel) (pa_cons (pv 0) (pa_cons (pe_bltn (v := .ty "int") (by rfl) T.b_int (by decide +kernel) rfl) pa_nil))) (pe_one (pe_not (pe_callB call_isi (by rfl) T.b_isinstance (by decide +kernel) (pa_cons (pv 0) (pa_cons (pe_bltn (v := .ty "bool") (by rfl) T.b_bool (by decide +kernel) rfl) pa_nil)))))))), ?_⟩
  refine ⟨_, rfl, _, _, _, _, true, rfl, .ty "int", .base (.int i), kit_ty (by decide +kernel), true, rfl, iteT ?_⟩
  exact ⟨_, rfl, _, _, _, _, false, rfl, .ty "bool", .base (.int i), kit_ty (by decide +kernel), false, rfl, q⟩
theorem sc_is_between : FnScope ["thing", "least", "most"] ["thing", "least", "most"] (defScope s_is_between) := ⟨rfl, rfl, rfl, by decide +kernel, rfl, by decide +kernel, by decide +kernel⟩
def sp_is_between : Sp := Sp3 fun a b c H Q => ∃ i j k : Int, a = .int i ∧ b = .int j ∧ c = .int k ∧ j ≤ i ∧ i ≤ k ∧ Q (.bl true) H
theorem ok_is_between (T : Blt mg) (D : DefAt K mg "is_between" s_is_between ["thing", "least", "most"]) (c_is_integer : Cal P w K mg base 1 "is_integer" ["thing"] sp_is_integer) : Cal P w K mg base 2 "is_between" ["thing", "least", "most"] sp_is_between := by
  refine cal_of D sc_is_between len3 fun f cdv A outer s H vs Q E hr h => ?_
  obtain ⟨_, _, _, rfl, i, j, k, rfl, rfl, rfl, h1, h2, q⟩ := h
  refine ⟨_, (pss_one (ps_ret (pe_and (pe_cal c_is_integer hr (by decide) (by rfl) (pa_cons (pv 0) pa_nil)) (pe_one (pe_chain op_le op_le (pv 1) (pv 0) (pv 2)))))), ?_⟩
  refine ⟨_, rfl, _, rfl, i, rfl, true, rfl, iteT ?_⟩
  refine ⟨_, rfl, _, rfl, _, _, rfl, rfl, _, rfl, iteD h1 ?_⟩
  exact ⟨_, rfl, _, _, rfl, rfl, qb q (decide_eq_true h2)⟩
theorem sc_is_pair : FnScope ["thing"] ["thing"] (defScope s_is_pair) := ⟨rfl, rfl, rfl, by decide +kernel, rfl, by decide +kernel, by decide +kernel⟩
def sp_is_pair : Sp := Sp1 fun a H Q => ∃ p x y, a = .ref p ∧ H p = some (.tup [x, y]) ∧ Q (.bl true) H
theorem ok_is_pair (T : Blt mg) (D : DefAt K mg "is_pair" s_is_pair ["thing"]) : Cal P w K mg base 1 "is_pair" ["thing"] sp_is_pair := by
  refine cal_of D sc_is_pair len1 fun f cdv A outer s H vs Q E hr h => ?_
  obtain ⟨_, rfl, p, x, y, rfl, hp, q⟩ := h
  refine ⟨_, (pss_one (ps_ret (pe_and (pe_callB call_isi (by rfl) T.b_isinstance (by decide +kernel) (pa_cons (pv 0) (pa_cons (pe_bltn (v := .ty "tuple") (by rfl) T.b_tuple (by decide +kernel) rfl) pa_nil))) (pe_one (pe_cmpR op_eq (pe_callB call_len_seq (by rfl) T.b_len (by decide +kernel) (pa_cons (pv 0) pa_nil)) pe_int (nomark _)))))), ?_⟩
  refine ⟨_, rfl, _, _, _, _, true, rfl, .ty "tuple", .base (.tup hp), kit_ty (by decide +kernel), true, rfl, iteT ?_⟩
  exact ⟨_, rfl, p, _, rfl, .inr (SqT.of hp), rfl, qb q rfl⟩
/-! ### fractions.py -/
theorem sc_divisor : FnScope ["one", "other"] ["one", "other"] (defScope s_divisor) := ⟨rfl, rfl, rfl, by decide +kernel, rfl, by decide +kernel, by decide +kernel⟩
def sp_divisor : Sp := Sp2 fun a b H Q => ∃ i j : Int, a = .int i ∧ b = .int j ∧ Q (.int (gcdI i j)) H
def WDiv (H : Hp) (i j : Int) (m : Nat) (σ : L2.St) (H' : Hp) : Prop := ∃ a b : Int, σ = [some (.int a), some (.int b)] ∧ m = b.toNat ∧ 0 ≤ a ∧ 0 ≤ b ∧ Int.gcd a b = Int.gcd i j ∧ H' = H
theorem ok_divisor (T : Blt mg) (D : DefAt K mg "divisor" s_divisor ["one", "other"]) : Cal P w K mg base 1 "divisor" ["one", "other"] sp_divisor := by
  refine cal_of D sc_divisor len2 fun f cdv A outer s H vs Q E hr h => ?_
  obtain ⟨_, _, rfl, i, j, rfl, rfl, q⟩ := h
  refine ⟨_, (pss_cons (ps_par (i := 0) (j := 1) (by rfl) sc_divisor.nd rfl rfl (by decide) rfl rfl (pa_cons (pe_callB call_abs (by rfl) T.b_abs (by decide +kernel) (pa_cons (pv 0) pa_nil)) (pa_cons (pe_callB call_abs (by rfl) T.b_abs (by decide +kernel) (pa_cons (pv 1) pa_nil)) pa_nil)) (by rfl))
    (pss_cons (ps_while PassesOwn.never (pt_cmpR op_gt (pv 1) pe_int (nomark _))
    (pss_one (ps_par (i := 0) (j := 1) (by rfl) sc_divisor.nd rfl rfl (by decide) rfl rfl (pa_cons (pv 1) (pa_cons (pe_op op_mod (pv 0) (pv 1)) pa_nil)) (by rfl))))
    (pss_one (ps_ret (pv 0))))), ?_⟩
  refine ⟨_, rfl, i, rfl, _, rfl, j, rfl, _, _, rfl, ?_⟩
  refine ⟨WDiv H i j, ⟨_, _, _, rfl, rfl, ?_, ?_, gcd_abs i j, rfl⟩, ?_⟩
  · split <;> omega
  · split <;> omega
  rintro m σ H' ⟨a, b, rfl, rfl, ha, hb, hg, rfl⟩
  refine ⟨_, rfl, _, _, rfl, rfl, _, rfl, ?_⟩
  by_cases h0 : 0 < b
  · refine iteD h0 ⟨fun σ' H'' => ∃ m', m' < b.toNat ∧ WDiv H' i j m' σ' H'', fun _ _ z => z, ?_⟩
    refine ⟨_, rfl, _, rfl, _, rfl, _, _, rfl, rfl, h0, _, _, rfl, ?_⟩
    have e1 := Int.emod_nonneg a (show b ≠ 0 by omega)
    have e2 := Int.emod_lt_of_pos a h0
    exact ⟨(a % b).toNat, by omega, b, a % b, rfl, rfl, by omega, e1, gcd_step.trans hg, rfl⟩
  · refine iteND h0 ?_
    have e : b = 0 := by omega
    subst e
    refine ⟨_, rfl, qi q ?_⟩
    have e2 : gcdI i j = gcdI a 0 := by
      unfold gcdI
      rw [hg]
    rw [e2, gcd_zero_r]
    omega
theorem sc_multiple : FnScope ["one", "other"] ["one", "other"] (defScope s_multiple) := ⟨rfl, rfl, rfl, by decide +kernel, rfl, by decide +kernel, by decide +kernel⟩
def sp_multiple : Sp := Sp2 fun a b H Q => ∃ i j : Int, a = .int i ∧ b = .int j ∧ 1 ≤ i ∧ i ≤ 1000 ∧ 1 ≤ j ∧ j ≤ 1000 ∧ Q (.int (i / gcdI i j * j)) H
theorem ok_multiple (T : Blt mg) (D : DefAt K mg "multiple" s_multiple ["one", "other"]) (c_divisor : Cal P w K mg base 1 "divisor" ["one", "other"] sp_divisor) : Cal P w K mg base 2 "multiple" ["one", "other"] sp_multiple := by
  refine cal_of D sc_multiple len2 fun f cdv A outer s H vs Q E hr h => ?_
  obtain ⟨_, _, rfl, i, j, rfl, rfl, h1, h2, h3, h4, q⟩ := h
  refine ⟨_, (pss_one (ps_ret (pe_op op_mul (pe_op op_fdiv (pv 0) (pe_cal c_divisor hr (by decide) (by rfl) (pa_cons (pv 0) (pa_cons (pv 1) pa_nil)))) (pv 1)))), ?_⟩
  have g1 := gcdI_pos (i := i) h3
  have g2 := gcdI_le (i := i) h3
  exact ⟨_, rfl, _, rfl, _, rfl, _, _, rfl, i, j, rfl, rfl, _, _, rfl, rfl, ⟨by omega, by omega⟩, _, rfl, _, _, rfl, rfl, .inr ⟨by omega, by omega⟩, q⟩
theorem sc_made : FnScope ["top", "bottom", "part"] ["top", "bottom"] (defScope s_made) := ⟨rfl, rfl, rfl, by decide +kernel, rfl, by decide +kernel, by decide +kernel⟩
def sp_made : Sp := Sp2 fun a b H Q => ∃ i j : Int, a = .int i ∧ b = .int j ∧ 1 ≤ j ∧ j ≤ 1000000000 ∧ ∀ H' v, Same H H' → FrV H' v (lowI i j) → Q v H'
theorem ok_made (T : Blt mg) (D : DefAt K mg "made" s_made ["top", "bottom"]) (c_divisor : Cal P w K mg base 1 "divisor" ["one", "other"] sp_divisor) : Cal P w K mg base 2 "made" ["top", "bottom"] sp_made := by
  refine cal_of D sc_made len2 fun f cdv A outer s H vs Q E hr h => ?_
  obtain ⟨_, _, rfl, i, j, rfl, rfl, h3, h4, q⟩ := h
  refine ⟨_, (pss_cons (ps_set (i := 2) sc_made.nd rfl (.inl rfl) (pe_cal c_divisor hr (by decide) (by rfl) (pa_cons (pv 0) (pa_cons (pv 1) pa_nil))))
    (pss_one (ps_ret (pe_tup (pa_cons (pe_op op_fdiv (pv 0) (pv 2)) (pa_cons (pe_op op_fdiv (pv 1) (pv 2)) pa_nil)))))), ?_⟩
  have g1 := gcdI_pos (i := i) h3
  have g2 := gcdI_le (i := i) h3
  refine ⟨_, rfl, _, rfl, _, _, rfl, i, j, rfl, rfl, ?_⟩
  refine ⟨_, rfl, _, rfl, _, _, rfl, rfl, ⟨by omega, by omega⟩, _, rfl, _, rfl, _, _, rfl, rfl, ⟨by omega, by omega⟩, (by show 2 ≤ sizeLine; decide), fun p hp => ?_⟩
  exact q _ _ (same_new hp) ⟨p, rfl, upd_same⟩
theorem sc_is_fraction : FnScope ["thing"] ["thing"] (defScope s_is_fraction) := ⟨rfl, rfl, rfl, by decide +kernel, rfl, by decide +kernel, by decide +kernel⟩
def sp_is_fraction : Sp := Sp1 fun a H Q => ∃ q' : Int × Int, FrV H a q' ∧ 1 ≤ q'.2 ∧ Int.gcd q'.1 q'.2 = 1 ∧ Q (.bl true) H
theorem ok_is_fraction (T : Blt mg) (D : DefAt K mg "is_fraction" s_is_fraction ["thing"]) (c_divisor : Cal P w K mg base 1 "divisor" ["one", "other"] sp_divisor) (c_is_pair : Cal P w K mg base 1 "is_pair" ["thing"] sp_is_pair)
    (c_is_integer : Cal P w K mg base 1 "is_integer" ["thing"] sp_is_integer) : Cal P w K mg base 2 "is_fraction" ["thing"] sp_is_fraction := by
  refine cal_of D sc_is_fraction len1 fun f cdv A outer s H vs Q E hr h => ?_
  obtain ⟨_, rfl, ⟨i, j⟩, ⟨p, rfl, hp⟩, h1, h2, q⟩ := h
  refine ⟨_, (pss_cons (ps_if (PW.pt (pw_or (pt_not (pt_val (pe_cal c_is_pair hr (by decide) (by rfl) (pa_cons (pv 0) pa_nil)))) (pw_or (pt_not (pt_val (pe_cal c_is_integer hr (by decide) (by rfl) (pa_cons (pe_ix ix_tup (pv 0) pe_int (fun _ _ => rfl)) pa_nil)))) (pw_or (pt_not (pt_val (pe_cal c_is_integer hr (by decide) (by rfl) (pa_cons (pe_ix ix_tup (pv 0) pe_int (fun _ _ => rfl)) pa_nil)))) (pw_or1 (pt_cmpR op_lt (pe_ix ix_tup (pv 0) pe_int (fun _ _ => rfl)) pe_int (nomark _)))))))
    (pss_one (ps_ret pe_bl))
    pss_nil)
    (pss_one (ps_ret (pe_cmpR op_eq (pe_cal c_divisor hr (by decide) (by rfl) (pa_cons (pe_ix ix_tup (pv 0) pe_int (fun _ _ => rfl)) (pa_cons (pe_ix ix_tup (pv 0) pe_int (fun _ _ => rfl)) pa_nil))) pe_int (nomark _))))), ?_⟩
  refine ⟨_, rfl, _, rfl, p, _, _, rfl, hp, true, rfl, iteF ?_⟩
  refine ⟨_, rfl, p, _, _, _, rfl, rfl, SqT.of hp, atI_nat (j := 0) rfl, _, rfl, i, rfl, true, rfl, iteF ?_⟩
  refine ⟨_, rfl, p, _, _, _, rfl, rfl, SqT.of hp, atI_nat (j := 1) rfl, _, rfl, j, rfl, true, rfl, iteF ?_⟩
  refine ⟨_, rfl, p, _, _, _, rfl, rfl, SqT.of hp, atI_nat (j := 1) rfl, _, _, rfl, rfl, _, rfl, iteND (show ¬ j < 1 by have : (1:Int) ≤ j := h1; omega) ?_⟩
  refine ⟨_, rfl, p, _, _, _, rfl, rfl, SqT.of hp, atI_nat (j := 0) rfl, _, rfl, p, _, _, _, rfl, rfl, SqT.of hp, atI_nat (j := 1) rfl, _, _, rfl, i, j, rfl, rfl, rfl, qb q (decide_eq_true ?_)⟩
  have : gcdI i j = 1 := by
    unfold gcdI
    rw [show Int.gcd i j = 1 from h2]
    rfl
  rw [this]
theorem sc_is_below : FnScope ["one", "other"] ["one", "other"] (defScope s_is_below) := ⟨rfl, rfl, rfl, by decide +kernel, rfl, by decide +kernel, by decide +kernel⟩
def sp_is_below : Sp := Sp2 fun a b H Q => ∃ x y : Int × Int, FrV H a x ∧ FrV H b y ∧ 0 ≤ x.2 ∧ x.2 ≤ 100000000 ∧ 0 ≤ y.2 ∧ y.2 ≤ 100000000 ∧ Q (.bl (decide (x.1 * y.2 < y.1 * x.2))) H
theorem ok_is_below (T : Blt mg) (D : DefAt K mg "is_below" s_is_below ["one", "other"]) : Cal P w K mg base 1 "is_below" ["one", "other"] sp_is_below := by
  refine cal_of D sc_is_below len2 fun f cdv A outer s H vs Q E hr h => ?_
  obtain ⟨_, _, rfl, ⟨x1, x2⟩, ⟨y1, y2⟩, ⟨p, rfl, hp⟩, ⟨p', rfl, hp'⟩, h1, h2, h3, h4, q⟩ := h
  dsimp only at h1 h2 h3 h4
  refine ⟨_, (pss_one (ps_ret (pe_cmpR op_lt (pe_op op_mul (pe_ix ix_tup (pv 0) pe_int (fun _ _ => rfl)) (pe_ix ix_tup (pv 1) pe_int (fun _ _ => rfl))) (pe_op op_mul (pe_ix ix_tup (pv 1) pe_int (fun _ _ => rfl)) (pe_ix ix_tup (pv 0) pe_int (fun _ _ => rfl))) (nomark _)))), ?_⟩
  refine ⟨_, rfl, p, _, _, _, rfl, rfl, SqT.of hp, atI_nat (j := 0) rfl, _, rfl, p', _, _, _, rfl, rfl, SqT.of hp', atI_nat (j := 1) rfl, _, _, rfl, rfl, .inr ⟨by omega, by omega⟩, ?_⟩
  exact ⟨_, rfl, p', _, _, _, rfl, rfl, SqT.of hp', atI_nat (j := 0) rfl, _, rfl, p, _, _, _, rfl, rfl, SqT.of hp, atI_nat (j := 1) rfl, _, _, rfl, rfl, .inr ⟨by omega, by omega⟩, _, _, rfl, rfl, q⟩
theorem sc_next_whole : FnScope ["one"] ["one"] (defScope s_next_whole) := ⟨rfl, rfl, rfl, by decide +kernel, rfl, by decide +kernel, by decide +kernel⟩
def sp_next_whole : Sp := Sp1 fun a H Q => ∃ x : Int × Int, FrV H a x ∧ 1 ≤ x.2 ∧ x.2 ≤ 1000000000 ∧ Q (.int (-(-x.1 / x.2))) H
theorem ok_next_whole (T : Blt mg) (D : DefAt K mg "next_whole" s_next_whole ["one"]) : Cal P w K mg base 1 "next_whole" ["one"] sp_next_whole := by
  refine cal_of D sc_next_whole len1 fun f cdv A outer s H vs Q E hr h => ?_
  obtain ⟨_, rfl, ⟨x1, x2⟩, ⟨p, rfl, hp⟩, h1, h2, q⟩ := h
  dsimp only at h1 h2
  refine ⟨_, (pss_one (ps_ret (pe_un un_neg (pe_op op_fdiv (pe_un un_neg (pe_ix ix_tup (pv 0) pe_int (fun _ _ => rfl))) (pe_ix ix_tup (pv 0) pe_int (fun _ _ => rfl)))))), ?_⟩
  exact ⟨_, rfl, p, _, _, _, rfl, rfl, SqT.of hp, atI_nat (j := 0) rfl, _, rfl, _, rfl, p, _, _, _, rfl, rfl, SqT.of hp, atI_nat (j := 1) rfl, _, _, rfl, rfl, ⟨by omega, by omega⟩, _, rfl, q⟩
end
end K30
set_option Elab.async false
set_option linter.all false
set_option maxRecDepth 100000
set_option maxHeartbeats 4000000
namespace K30
open PySem PySem.Spec PyProof.Rows L2
section
variable {P : Program} {w : World} {K : PySem.W.Frag} {mg : Str → Option Value} {base : Heap}
theorem sc_is_row : FnScope ["thing", "many", "item"] ["thing", "many"] (defScope s_is_row) := ⟨rfl, rfl, rfl, by decide +kernel, rfl, by decide +kernel, by decide +kernel⟩
def sp_is_row : Sp := Sp2 fun a b H Q => ∃ (x : Int × Int), FrV H a x ∧ b = .int 2 ∧ ∀ H', Same H H' → Q (.bl true) H'
theorem int2 {i j : Int} {n : Nat} {x : V} (h : [V.int i, V.int j][n]? = some x) : ∃ z, x = .int z := by
  match n, h with
  | 0, h => exact ⟨i, (Option.some.inj h).symm⟩
  | 1, h => exact ⟨j, (Option.some.inj h).symm⟩
theorem ok_is_row (T : Blt mg) (D : DefAt K mg "is_row" s_is_row ["thing", "many"]) (c_is_integer : Cal P w K mg base 1 "is_integer" ["thing"] sp_is_integer) : Cal P w K mg base 2 "is_row" ["thing", "many"] sp_is_row := by
  refine cal_of D sc_is_row len2 fun f cdv A outer s H vs Q E hr h => ?_
  obtain ⟨_, _, rfl, ⟨x1, x2⟩, ⟨p, rfl, hp⟩, rfl, q⟩ := h
  refine ⟨_, (pss_one (ps_ret (pe_and (pe_callB call_isi (by rfl) T.b_isinstance (by decide +kernel) (pa_cons (pv 0) (pa_cons (pe_bltn (v := .ty "tuple") (by rfl) T.b_tuple (by decide +kernel) rfl) pa_nil))) (pe_and (pe_cmpR op_eq (pe_callB call_len_seq (by rfl) T.b_len (by decide +kernel) (pa_cons (pv 0) pa_nil)) (pv 1) (nomark _)) (pe_one (pe_callB (cr_all rfl) (by rfl) T.b_all (by decide +kernel) (pa_cons (pe_lc (own := [("item", 2)]) (g := (gName 2)) (tt := tYes) rfl sc_is_row.nd (pi_tup (pv 0)) (blkOk_by (own := [("item", 2)]) (N := ["thing", "many", "item"]) (sc := defScope s_is_row) (by decide +kernel)) (fun _ _ _ _ _ => (pg_name (i := 2) sc_is_row.nd rfl (.inl rfl))) (fun _ _ _ _ _ => pts_nil) (fun _ _ _ _ _ => (pe_cal c_is_integer hr (by decide) (by rfl) (pa_cons (pv 2) pa_nil)))) pa_nil))))))), ?_⟩
  refine ⟨_, rfl, _, _, _, _, true, rfl, .ty "tuple", .base (.tup hp), kit_ty (by decide +kernel), true, rfl, iteT ?_⟩
  refine ⟨_, rfl, p, _, rfl, .inr (SqT.of hp), _, rfl, rfl, _, rfl, iteD rfl ?_⟩
  refine ⟨_, rfl, p, rfl, ⟨_, SqT.of hp⟩, lcT hp (by show 2 ≤ 1000; omega) (fun _ y _ => y = .bl true) (fun _ _ _ _ _ z => z) (fun _ => rfl) (fun i x H' hx e Q' k => ?_) (fun L ys H' hL e h1 h2 h3 => ?_)⟩
  · obtain ⟨z, rfl⟩ := int2 hx
    exact ⟨_, rfl, _, rfl, z, rfl, k _ _ (Same.refl _) rfl⟩
  · rw [bl_ext h2 h3] at h1
    exact ⟨L, _, rfl, SqL.of h1, qb (q _ e) (all_t _)⟩
/-! ### lists.py -/
theorem sc_is_threshold : FnScope ["thing"] ["thing"] (defScope s_is_threshold) := ⟨rfl, rfl, rfl, by decide +kernel, rfl, by decide +kernel, by decide +kernel⟩
def sp_is_threshold : Sp := Sp1 fun a H Q => ∃ x : Int × Int, FrV H a x ∧ FrOk x ∧ Q (.bl true) H
theorem ok_is_threshold (T : Blt mg) (D : DefAt K mg "is_threshold" s_is_threshold ["thing"]) (c_is_fraction : Cal P w K mg base 2 "is_fraction" ["thing"] sp_is_fraction) : Cal P w K mg base 3 "is_threshold" ["thing"] sp_is_threshold := by
  refine cal_of D sc_is_threshold len1 fun f cdv A outer s H vs Q E hr h => ?_
  obtain ⟨_, rfl, ⟨x1, x2⟩, ⟨p, rfl, hp⟩, ⟨h1, h2, h3, h4, h5⟩, q⟩ := h
  refine ⟨_, (pss_one (ps_ret (pe_and (pe_cal c_is_fraction hr (by decide) (by rfl) (pa_cons (pv 0) pa_nil)) (pe_and (pe_chain op_le op_le pe_int (pe_ix ix_tup (pv 0) pe_int (fun _ _ => rfl)) (pe_num (by rfl) T.n_MOST_TOP)) (pe_one (pe_cmpR op_le (pe_ix ix_tup (pv 0) pe_int (fun _ _ => rfl)) (pe_num (by rfl) T.n_MOST_BOTTOM) (nomark _))))))), ?_⟩
  refine ⟨_, rfl, _, rfl, (x1, x2), ⟨p, rfl, hp⟩, h3, h5, true, rfl, iteT ?_⟩
  refine ⟨_, rfl, p, _, _, _, rfl, rfl, SqT.of hp, atI_nat (j := 0) rfl, _, _, rfl, rfl, _, rfl, iteD h1 ?_⟩
  refine ⟨_, _, rfl, rfl, _, rfl, iteD h2 ?_⟩
  exact ⟨_, rfl, p, _, _, _, rfl, rfl, SqT.of hp, atI_nat (j := 1) rfl, _, _, rfl, rfl, qb q (decide_eq_true h4)⟩
theorem sc_is_list : FnScope ["thing", "item", "later"] ["thing"] (defScope s_is_list) := ⟨rfl, rfl, rfl, by decide +kernel, rfl, by decide +kernel, by decide +kernel⟩
def sp_is_list : Sp := Sp1 fun a H Q => ∃ l : List Fr, LsV H a l ∧ LsOk l ∧ ∀ H', Same H H' → Q (.bl true) H'
theorem ok_is_list (T : Blt mg) (D : DefAt K mg "is_list" s_is_list ["thing"]) (c_is_threshold : Cal P w K mg base 3 "is_threshold" ["thing"] sp_is_threshold) (c_is_below : Cal P w K mg base 1 "is_below" ["one", "other"] sp_is_below) : Cal P w K mg base 4 "is_list" ["thing"] sp_is_list := by
  refine cal_of D sc_is_list len1 fun f cdv A outer s H vs Q E hr h => ?_
  obtain ⟨_, rfl, l, ⟨p, us, rfl, hp, hl⟩, ok, q⟩ := h
  have len := pr_len hl
  obtain ⟨l1, l2, l3, l4⟩ := ok
  refine ⟨_, (pss_cons (ps_if (PW.pt (pw_or (pt_not (pt_val (pe_callB call_isi (by rfl) T.b_isinstance (by decide +kernel) (pa_cons (pv 0) (pa_cons (pe_bltn (v := .ty "tuple") (by rfl) T.b_tuple (by decide +kernel) rfl) pa_nil))))) (pw_or1 (pt_not (pt_chain op_le op_le pe_int (pe_callB call_len_seq (by rfl) T.b_len (by decide +kernel) (pa_cons (pv 0) pa_nil)) (pe_num (by rfl) T.n_MOST_THRESHOLDS))))))
    (pss_one (ps_ret pe_bl))
    pss_nil)
    (pss_cons (ps_if (pt_not (pt_val (pe_callB (cr_all rfl) (by rfl) T.b_all (by decide +kernel) (pa_cons (pe_lc (own := [("item", 1)]) (g := (gName 1)) (tt := tYes) rfl sc_is_list.nd (pi_tup (pv 0)) (blkOk_by (own := [("item", 1)]) (N := ["thing", "item", "later"]) (sc := defScope s_is_list) (by decide +kernel)) (fun _ _ _ _ _ => (pg_name (i := 1) sc_is_list.nd rfl (.inl rfl))) (fun _ _ _ _ _ => pts_nil) (fun _ _ _ _ _ => (pe_cal c_is_threshold hr (by decide) (by rfl) (pa_cons (pv 1) pa_nil)))) pa_nil))))
    (pss_one (ps_ret pe_bl))
    pss_nil)
    (pss_one (ps_ret (pe_not (pe_callB (cr_any rfl) (by rfl) T.b_any (by decide +kernel) (pa_cons (pe_lc (own := [("item", 1), ("later", 2)]) (g := (gTup K 2 (gCons (gName 1) (gCons (gName 2) gNil)))) (tt := tYes) rfl sc_is_list.nd (RZ.pi_zipA (by rfl) T.b_zip (pa_cons (pv 0) (pa_cons (pe_slice sl_tupA (pv 0) (po_some pe_int) po_none) pa_nil))) (blkOk_by (own := [("item", 1), ("later", 2)]) (N := ["thing", "item", "later"]) (sc := defScope s_is_list) (by decide +kernel)) (fun _ _ _ _ _ => (pg_tup rfl (pgs_cons (pg_name (i := 1) sc_is_list.nd rfl (.inl rfl)) (pgs_cons (pg_name (i := 2) sc_is_list.nd rfl (.inl rfl)) pgs_nil)))) (fun _ _ _ _ _ => pts_nil) (fun _ _ _ _ _ => (pe_cal c_is_below hr (by decide) (by rfl) (pa_cons (pv 2) (pa_cons (pv 1) pa_nil))))) pa_nil))))))), ?_⟩
  refine ⟨_, rfl, _, _, _, _, true, rfl, .ty "tuple", .base (.tup hp), kit_ty (by decide +kernel), true, rfl, iteF ?_⟩
  refine ⟨_, rfl, p, _, rfl, .inr (SqT.of hp), _, _, rfl, rfl, _, rfl, iteD (by omega) ?_⟩
  refine ⟨_, _, rfl, rfl, _, rfl, iteNS (by omega) ?_⟩
  -- all of them thresholds
  refine ⟨_, rfl, p, rfl, ⟨_, SqT.of hp⟩, lcT hp (by omega) (fun _ y _ => y = .bl true) (fun _ _ _ _ _ z => z) (fun _ => rfl) (fun i x H' hx e Q' k => ?_) (fun L ys H' hL e h1 h2 h3 => ?_)⟩
  · obtain ⟨z, hz, rz⟩ := pr_get hl hx
    exact ⟨_, rfl, _, rfl, z, rz.up (sts e), l3 z (List.mem_of_getElem? hz), k _ _ (Same.refl _) rfl⟩
  rw [bl_ext h2 h3] at h1
  refine ⟨L, _, rfl, SqL.of h1, _, rfl, iteNB (all_t _) ?_⟩
  -- none below the one ahead
  have hp1 := e _ _ hp
  refine ⟨_, rfl, _, rfl, 1, rfl, p, us, rfl, SqT.of hp1, fun z => absurd z (not_whole1 (by omega)), fun _ p2 hp2 => ?_⟩
  have e2 : Same H' (upd H' p2 (.tup (cutV us (some 1) none))) := same_new hp2
  have hc : (upd H' p2 (.tup (cutV us (some 1) none))) p2 = some (.tup (us.drop 1)) := by
    rw [upd_same, show cutV us (some 1) none = us.drop 1 from cut_from (k := 1)]
  refine ⟨p, p2, us, us.drop 1, rfl, .inr ⟨SqT.of (e2 _ _ hp1), SqT.of hc, fun L2 hL2 => ?_⟩⟩
  generalize upd H' p2 (.tup (cutV us (some 1) none)) = H2 at e2 hc hL2
  refine lc_it (walk_zipT (n := us.length - 1) (by rw [List.length_drop]; omega)) (fun i H3 => Same H2 H3 ∧ H3 L2 = some (.lst (((List.range i).map fun _ => false).map V.bl))) ⟨same_new hL2, upd_same⟩ (fun i H3 _ z => ⟨SqT.of (z.1 _ _ (e2 _ _ hp1)), SqT.of (z.1 _ _ hc)⟩) (fun i x H3 H4 hi ⟨z1, z2⟩ y => ?_) (fun H3 ⟨z1, z2⟩ => ?_)
  · obtain ⟨t, a, b, rfl, ht, rfl, ha, hb⟩ := y
    have hb : (us.drop 1)[i]? = some b := hb
    rw [List.getElem?_drop] at hb
    obtain ⟨qa, ga, ra⟩ := pr_get hl ha
    obtain ⟨qb', gb, rb⟩ := pr_get hl hb
    have f1 := l3 qa (List.mem_of_getElem? ga)
    have f2 := l3 qb' (List.mem_of_getElem? gb)
    have e4 : Same H3 (upd H3 t (.tup [a, b])) := same_new ht
    have eall : TS H (upd H3 t (.tup [a, b])) := sts (((e.trans e2).trans z1).trans e4)
    refine ⟨t, [a, b], rfl, SqT.of upd_same, rfl, a, [b], rfl, b, [], rfl, rfl, rfl, ?_⟩
    refine ⟨_, rfl, _, rfl, _, _, rfl, qb', qa, rb.up eall, ra.up eall, by have := f2.2.2; omega, by have := f2.2.2; omega, by have := f1.2.2; omega, by have := f1.2.2; omega, ?_⟩
    refine ⟨_, e4 _ _ z2, z_lt (by simp; omega), ?_, ?_⟩
    · exact same_mut (z1.trans e4) hL2
    · have hle : frLe qa qb' := by
        obtain ⟨i1, g1⟩ := List.getElem?_eq_some_iff.mp ga
        obtain ⟨i2, g2⟩ := List.getElem?_eq_some_iff.mp gb
        rw [← g1, ← g2]
        exact List.pairwise_iff_getElem.mp l4 i (1 + i) i1 i2 (by omega)
      have hd : decide (qb'.1 * qa.2 < qa.1 * qb'.2) = false := decide_eq_false (by unfold frLe at hle; omega)
      rw [upd_same, hd, List.range_succ, List.map_append, List.map_append]
      rfl
  · exact ⟨L2, _, rfl, SqL.of z2, _, rfl, qb (q _ ((e.trans e2).trans z1)) (by rw [any_f]; rfl)⟩
theorem sc_is_width : FnScope ["thing"] ["thing"] (defScope s_is_width) := ⟨rfl, rfl, rfl, by decide +kernel, rfl, by decide +kernel, by decide +kernel⟩
def sp_is_width : Sp := Sp1 fun a H Q => ∃ i : Int, a = .int i ∧ 0 ≤ i ∧ i ≤ 12 ∧ Q (.bl true) H
theorem ok_is_width (T : Blt mg) (D : DefAt K mg "is_width" s_is_width ["thing"]) (c_is_between : Cal P w K mg base 2 "is_between" ["thing", "least", "most"] sp_is_between) : Cal P w K mg base 3 "is_width" ["thing"] sp_is_width := by
  refine cal_of D sc_is_width len1 fun f cdv A outer s H vs Q E hr h => ?_
  obtain ⟨_, rfl, i, rfl, h1, h2, q⟩ := h
  refine ⟨_, (pss_one (ps_ret (pe_cal c_is_between hr (by decide) (by rfl) (pa_cons (pv 0) (pa_cons pe_int (pa_cons (pe_num (by rfl) T.n_MOST_WIDTH) pa_nil)))))), ?_⟩
  exact ⟨_, rfl, _, _, _, rfl, i, 0, 12, rfl, rfl, rfl, h1, h2, q⟩
theorem sc_parts_of_grain : FnScope ["width", "other"] ["width", "other"] (defScope s_parts_of_grain) := ⟨rfl, rfl, rfl, by decide +kernel, rfl, by decide +kernel, by decide +kernel⟩
def sp_parts_of_grain : Sp := Sp2 fun a b H Q => ∃ i j : Int, a = .int i ∧ b = .int j ∧ 0 ≤ i ∧ i ≤ 12 ∧ 0 ≤ j ∧ j ≤ 12 ∧ ¬ (i = 0 ∧ j = 0) ∧ Q (.int (grn i j)) H
theorem mx3_grn {i j : Int} (h1 : 0 ≤ i) (h2 : 0 ≤ j) (h : ¬ (i = 0 ∧ j = 0)) (h0 : i = 0 ∨ j = 0) : mx3 i j 1 = grn i j := by
  unfold mx3 grn
  rw [if_pos h0]
  split
  · rw [if_neg (by omega)]
  · rw [if_neg (by omega)]
theorem ok_parts_of_grain (T : Blt mg) (D : DefAt K mg "parts_of_grain" s_parts_of_grain ["width", "other"]) (c_multiple : Cal P w K mg base 2 "multiple" ["one", "other"] sp_multiple) : Cal P w K mg base 3 "parts_of_grain" ["width", "other"] sp_parts_of_grain := by
  refine cal_of D sc_parts_of_grain len2 fun f cdv A outer s H vs Q E hr h => ?_
  obtain ⟨_, _, rfl, i, j, rfl, rfl, h1, h2, h3, h4, h5, q⟩ := h
  refine ⟨_, (pss_cons (ps_if (PW.pt (pw_or (pt_cmpR op_eq (pv 0) pe_int (nomark _)) (pw_or1 (pt_cmpR op_eq (pv 1) pe_int (nomark _)))))
    (pss_one (ps_ret (pe_callB (call_max3 rfl) (by rfl) T.b_max (by decide +kernel) (pa_cons (pv 0) (pa_cons (pv 1) (pa_cons pe_int pa_nil))))))
    pss_nil)
    (pss_one (ps_ret (pe_cal c_multiple hr (by decide) (by rfl) (pa_cons (pv 0) (pa_cons (pv 1) pa_nil)))))), ?_⟩
  refine ⟨_, rfl, rfl, _, rfl, ?_⟩
  by_cases hi : i = 0
  · refine iteD (congrArg V.int hi) ?_
    exact ⟨_, rfl, _, rfl, i, j, 1, rfl, qi q (mx3_grn h1 h3 h5 (.inl hi))⟩
  · refine iteND (fun z => hi (V.int.inj z)) ?_
    refine ⟨_, rfl, rfl, _, rfl, ?_⟩
    by_cases hj : j = 0
    · refine iteD (congrArg V.int hj) ?_
      exact ⟨_, rfl, _, rfl, i, j, 1, rfl, qi q (mx3_grn h1 h3 h5 (.inr hj))⟩
    · refine iteND (fun z => hj (V.int.inj z)) ?_
      refine ⟨_, rfl, _, rfl, _, _, rfl, i, j, rfl, rfl, by omega, by omega, by omega, by omega, qi q ?_⟩
      unfold grn
      rw [if_neg (by omega)]
theorem sc_in_grains : FnScope ["steps", "grains", "step"] ["steps", "grains"] (defScope s_in_grains) := ⟨rfl, rfl, rfl, by decide +kernel, rfl, by decide +kernel, by decide +kernel⟩
def sp_in_grains : Sp := Sp2 fun a b H Q => ∃ (l : List Fr) (g : Int), LsV H a l ∧ b = .int g ∧ (∀ q ∈ l, FrOk q) ∧ l.length ≤ 6 ∧ 1 ≤ g ∧ g ≤ 60 ∧ ∀ H' p, Same H H' → H' p = some (.tup ((l.map (upL g)).map V.int)) → Q (.ref p) H'
theorem ok_in_grains (T : Blt mg) (D : DefAt K mg "in_grains" s_in_grains ["steps", "grains"]) (c_made : Cal P w K mg base 2 "made" ["top", "bottom"] sp_made) (c_next_whole : Cal P w K mg base 1 "next_whole" ["one"] sp_next_whole) : Cal P w K mg base 3 "in_grains" ["steps", "grains"] sp_in_grains := by
  refine cal_of D sc_in_grains len2 fun f cdv A outer s H vs Q E hr h => ?_
  obtain ⟨_, _, rfl, l, g, ⟨p, us, rfl, hp, hl⟩, rfl, l3, l2, g1, g2, q⟩ := h
  have len := pr_len hl
  refine ⟨_, (pss_one (ps_ret (pe_callTy call_tuple_of (by rfl) T.b_tuple (by decide +kernel) (pa_cons (pe_lc (own := [("step", 2)]) (g := (gName 2)) (tt := tYes) rfl sc_in_grains.nd (pi_tup (pv 0)) (blkOk_by (own := [("step", 2)]) (N := ["steps", "grains", "step"]) (sc := defScope s_in_grains) (by decide +kernel)) (fun _ _ _ _ _ => (pg_name (i := 2) sc_in_grains.nd rfl (.inl rfl))) (fun _ _ _ _ _ => pts_nil) (fun _ _ _ _ _ => (pe_cal c_next_whole hr (by decide) (by rfl) (pa_cons (pe_cal c_made hr (by decide) (by rfl) (pa_cons (pe_op op_mul (pe_ix (show IxR _ (rIxT K) from ix_tup) (pv 2) pe_int (fun _ _ => rfl)) (pv 1)) (pa_cons (pe_ix (show IxR _ (rIxT K) from ix_tup) (pv 2) pe_int (fun _ _ => rfl)) pa_nil))) pa_nil)))) pa_nil)))), ?_⟩
  refine ⟨_, rfl, p, rfl, ⟨_, SqT.of hp⟩, lcT hp (by omega) (fun _ y i => ∃ z, l[i]? = some z ∧ y = .int (upL g z)) (fun _ _ _ _ _ z => z) (fun _ => rfl) (fun i x H' hx e Q' k => ?_) (fun L ys H' hL e h1 h2 h3 => ?_)⟩
  · obtain ⟨⟨z1, z2⟩, hz, rz⟩ := pr_get hl hx
    have ok := l3 _ (List.mem_of_getElem? hz)
    obtain ⟨t, rfl, ht⟩ := rz.up (sts e)
    have o3 : (1 : Int) ≤ z2 := ok.2.2.1
    have o4 : z2 ≤ 144 := ok.2.2.2.1
    refine ⟨_, rfl, t, _, _, _, rfl, rfl, SqT.of ht, atI_nat (j := 0) rfl, _, rfl, _, _, rfl, rfl, .inr ⟨by omega, by omega⟩, _, rfl, t, _, _, _, rfl, rfl, SqT.of ht, atI_nat (j := 1) rfl, _, _, rfl, _, _, rfl, rfl, o3, by omega, fun H2 v e2 hv => ?_⟩
    have b := lowI_2 (i := z1 * g) o3
    refine ⟨_, rfl, _, hv, b.1, (show (lowI (z1 * g) z2).2 ≤ 1000000000 by omega), k _ _ e2 ⟨_, hz, ?_⟩⟩
    rw [← up_eq (g := g) (q := (z1, z2)) o3]
    rfl
  · rw [vals_ext (f := fun z => V.int (upL g z)) (by omega) h3] at h1
    refine ⟨L, _, rfl, .inl ⟨SqL.of h1, fun t ht => q _ _ (e.trans (same_new ht)) ?_⟩⟩
    rw [upd_same, List.map_map]
    rfl
end
end K30
set_option Elab.async false
set_option linter.all false
set_option maxRecDepth 100000
set_option maxHeartbeats 4000000
namespace K30
open PySem PySem.Spec PyProof.Rows L2
section
variable {P : Program} {w : World} {K : PySem.W.Frag} {mg : Str → Option Value} {base : Heap}
/-! ### books.py -/
theorem sc_is_sort : FnScope ["thing"] ["thing"] (defScope s_is_sort) := ⟨rfl, rfl, rfl, by decide +kernel, rfl, by decide +kernel, by decide +kernel⟩
def sp_is_sort : Sp := Sp1 fun a H Q => ∃ x : Fr, FrV H a x ∧ SortOk x ∧ Q (.bl true) H
theorem ok_is_sort (T : Blt mg) (D : DefAt K mg "is_sort" s_is_sort ["thing"]) (c_is_pair : Cal P w K mg base 1 "is_pair" ["thing"] sp_is_pair) (c_is_width : Cal P w K mg base 3 "is_width" ["thing"] sp_is_width) (c_is_between : Cal P w K mg base 2 "is_between" ["thing", "least", "most"] sp_is_between) : Cal P w K mg base 4 "is_sort" ["thing"] sp_is_sort := by
  refine cal_of D sc_is_sort len1 fun f cdv A outer s H vs Q E hr h => ?_
  obtain ⟨_, rfl, ⟨x1, x2⟩, ⟨p, rfl, hp⟩, ⟨h1, h2, h3⟩, q⟩ := h
  have hw := Wd_le h1
  refine ⟨_, (pss_one (ps_ret (pe_and (pe_cal c_is_pair hr (by decide) (by rfl) (pa_cons (pv 0) pa_nil)) (pe_and (pe_cal c_is_width hr (by decide) (by rfl) (pa_cons (pe_ix ix_tup (pv 0) pe_int (fun _ _ => rfl)) pa_nil)) (pe_one (pe_cal c_is_between hr (by decide) (by rfl) (pa_cons (pe_ix ix_tup (pv 0) pe_int (fun _ _ => rfl)) (pa_cons pe_int (pa_cons (pe_num (by rfl) T.n_MOST_CAP) pa_nil))))))))), ?_⟩
  refine ⟨_, rfl, _, rfl, p, _, _, rfl, hp, true, rfl, iteT ?_⟩
  refine ⟨_, rfl, p, _, _, _, rfl, rfl, SqT.of hp, atI_nat (j := 0) rfl, _, rfl, x1, rfl, hw.1, hw.2, true, rfl, iteT ?_⟩
  exact ⟨_, rfl, p, _, _, _, rfl, rfl, SqT.of hp, atI_nat (j := 1) rfl, _, _, _, rfl, x2, 1, 6, rfl, rfl, rfl, h2, h3, q⟩
theorem sc_are_sorts : FnScope ["thing", "item", "sort"] ["thing"] (defScope s_are_sorts) := ⟨rfl, rfl, rfl, by decide +kernel, rfl, by decide +kernel, by decide +kernel⟩
def sp_are_sorts : Sp := Sp1 fun a H Q => ∃ ss : List Fr, LsV H a ss ∧ SortsOk ss ∧ ∀ H', Same H H' → Q (.bl true) H'
theorem ok_are_sorts (T : Blt mg) (D : DefAt K mg "are_sorts" s_are_sorts ["thing"]) (c_is_sort : Cal P w K mg base 4 "is_sort" ["thing"] sp_is_sort) : Cal P w K mg base 5 "are_sorts" ["thing"] sp_are_sorts := by
  refine cal_of D sc_are_sorts len1 fun f cdv A outer s H vs Q E hr h => ?_
  obtain ⟨_, rfl, l, ⟨p, us, rfl, hp, hl⟩, ⟨l1, l2, l3, l4⟩, q⟩ := h
  have len := pr_len hl
  refine ⟨_, (pss_cons (ps_if (PW.pt (pw_or (pt_not (pt_val (pe_callB call_isi (by rfl) T.b_isinstance (by decide +kernel) (pa_cons (pv 0) (pa_cons (pe_bltn (v := .ty "tuple") (by rfl) T.b_tuple (by decide +kernel) rfl) pa_nil))))) (pw_or (pt_not (pt_chain op_le op_le pe_int (pe_callB call_len_seq (by rfl) T.b_len (by decide +kernel) (pa_cons (pv 0) pa_nil)) (pe_num (by rfl) T.n_MOST_SORTS))) (pw_or1 (pt_not (pt_val (pe_callB (cr_all rfl) (by rfl) T.b_all (by decide +kernel) (pa_cons (pe_lc (own := [("item", 1)]) (g := (gName 1)) (tt := tYes) rfl sc_are_sorts.nd (pi_tup (pv 0)) (blkOk_by (own := [("item", 1)]) (N := ["thing", "item", "sort"]) (sc := defScope s_are_sorts) (by decide +kernel)) (fun _ _ _ _ _ => (pg_name (i := 1) sc_are_sorts.nd rfl (.inl rfl))) (fun _ _ _ _ _ => pts_nil) (fun _ _ _ _ _ => (pe_cal c_is_sort hr (by decide) (by rfl) (pa_cons (pv 1) pa_nil)))) pa_nil))))))))
    (pss_one (ps_ret pe_bl))
    pss_nil)
    (pss_one (ps_ret (pe_cmpR op_le (pe_callB call_len_seq (by rfl) T.b_len (by decide +kernel) (pa_cons (pe_lc (own := [("sort", 2)]) (g := (gName 2)) rfl sc_are_sorts.nd (pi_tup (pv 0)) (blkOk_by (own := [("sort", 2)]) (N := ["thing", "item", "sort"]) (sc := defScope s_are_sorts) (by decide +kernel)) (fun _ _ _ _ _ => (pg_name (i := 2) sc_are_sorts.nd rfl (.inl rfl))) (fun _ _ _ _ _ => (pts_one (pt_cmpR op_eq (pe_ix (show IxR _ (rIxT K) from ix_tup) (pv 2) pe_int (fun _ _ => rfl)) pe_int (nomark _)))) (fun _ _ _ _ _ => (pv 2))) pa_nil)) pe_int (nomark _))))), ?_⟩
  refine ⟨_, rfl, _, _, _, _, true, rfl, .ty "tuple", .base (.tup hp), kit_ty (by decide +kernel), true, rfl, iteF ?_⟩
  refine ⟨_, rfl, p, _, rfl, .inr (SqT.of hp), _, _, rfl, rfl, _, rfl, iteD (by omega) ?_⟩
  refine ⟨_, _, rfl, rfl, _, rfl, iteNB (decide_eq_true (by omega)) ?_⟩
  refine ⟨_, rfl, p, rfl, ⟨_, SqT.of hp⟩, lcT hp (by omega) (fun _ y _ => y = .bl true) (fun _ _ _ _ _ z => z) (fun _ => rfl) (fun i x H' hx e Q' k => ?_) (fun L ys H' hL e h1 h2 h3 => ?_)⟩
  · obtain ⟨z, hz, rz⟩ := pr_get hl hx
    exact ⟨_, rfl, _, rfl, z, rz.up (sts e), l3 z (List.mem_of_getElem? hz), k _ _ (Same.refl _) rfl⟩
  rw [bl_ext h2 h3] at h1
  refine ⟨L, _, rfl, SqL.of h1, _, rfl, iteNB (all_t _) ?_⟩
  -- one sea at most
  have hp1 := e _ _ hp
  refine ⟨_, rfl, p, rfl, ⟨_, SqT.of hp1⟩, fun L2 hL2 => ?_⟩
  refine lc_tup (xs := us) (fun i H3 => Same H' H3 ∧ ∃ ys, H3 L2 = some (.lst ys) ∧ ys.length = ((l.take i).filter fun s => decide (s.1 = 0)).length) ⟨same_new hL2, [], upd_same, rfl⟩ (fun i H3 _ z => SqT.of (z.1 _ _ hp1)) (fun i x H3 hx ⟨z1, ys, z2, z3⟩ => ?_) (fun H3 ⟨z1, ys, z2, z3⟩ => ?_)
  · obtain ⟨⟨a1, a2⟩, hz, rz⟩ := pr_get hl hx
    obtain ⟨t, rfl, ht⟩ := rz.up (sts (e.trans z1))
    have hi := (List.getElem?_eq_some_iff.mp hx).1
    have hyl : ys.length ≤ i := by
      rw [z3]
      refine Nat.le_trans (List.length_filter_le _ _) ?_
      rw [List.length_take]
      omega
    refine ⟨rfl, _, rfl, t, _, _, _, rfl, rfl, SqT.of ht, atI_nat (j := 0) rfl, rfl, _, rfl, ?_⟩
    by_cases h0 : a1 = 0
    · refine iteD (congrArg V.int h0) ?_
      refine ⟨_, rfl, ys, z2, z_lt (by omega), same_mut z1 hL2, _, upd_same, ?_⟩
      rw [List.take_add_one, hz, List.filter_append, List.length_append, List.length_append, ← z3]
      simp [h0]
    · refine iteND (fun z => h0 (V.int.inj z)) ?_
      refine ⟨z1, ys, z2, ?_⟩
      rw [List.take_add_one, hz, List.filter_append, List.length_append, ← z3]
      simp [h0]
  · refine ⟨L2, _, rfl, .inl (SqL.of z2), _, _, rfl, rfl, qb (q _ (e.trans z1)) (decide_eq_true ?_)⟩
    rw [z3, len, List.take_length]
    omega
theorem sc_is_join : FnScope ["thing", "sorts"] ["thing", "sorts"] (defScope s_is_join) := ⟨rfl, rfl, rfl, by decide +kernel, rfl, by decide +kernel, by decide +kernel⟩
def sp_is_join : Sp := Sp2 fun a b H Q => ∃ (x : Fr) (ss : List Fr), FrV H a x ∧ LsV H b ss ∧ JoinOk ss x ∧ ∀ H', Same H H' → Q (.bl true) H'
theorem ok_is_join (T : Blt mg) (D : DefAt K mg "is_join" s_is_join ["thing", "sorts"]) (c_is_row : Cal P w K mg base 2 "is_row" ["thing", "many"] sp_is_row) : Cal P w K mg base 3 "is_join" ["thing", "sorts"] sp_is_join := by
  refine cal_of D sc_is_join len2 fun f cdv A outer s H vs Q E hr h => ?_
  obtain ⟨_, _, rfl, ⟨x1, x2⟩, ss, hx, ⟨ps, us, rfl, hs0, hl⟩, ⟨h1, h2, h3, h4⟩, q⟩ := h
  dsimp only at h1 h2 h3 h4
  have len := pr_len hl
  refine ⟨_, (pss_cons (ps_if (PW.pt (pw_or (pt_not (pt_val (pe_cal c_is_row hr (by decide) (by rfl) (pa_cons (pv 0) (pa_cons pe_int pa_nil))))) (pw_or1 (pt_not (pt_chain3 op_le op_le op_lt pe_int (pe_ix ix_tup (pv 0) pe_int (fun _ _ => rfl)) (pe_ix ix_tup (pv 0) pe_int (fun _ _ => rfl)) (pe_callB call_len_seq (by rfl) T.b_len (by decide +kernel) (pa_cons (pv 1) pa_nil)))))))
    (pss_one (ps_ret pe_bl))
    pss_nil)
    (pss_one (ps_ret (pe_or (pe_cmpR op_gt (pe_ix ix_tup (pe_ix ix_tup (pv 1) (pe_ix ix_tup (pv 0) pe_int (fun _ _ => rfl)) (fun _ _ => rfl)) pe_int (fun _ _ => rfl)) pe_int (nomark _)) (pe_one (pe_cmpR op_gt (pe_ix ix_tup (pe_ix ix_tup (pv 1) (pe_ix ix_tup (pv 0) pe_int (fun _ _ => rfl)) (fun _ _ => rfl)) pe_int (fun _ _ => rfl)) pe_int (nomark _))))))), ?_⟩
  refine ⟨_, rfl, _, _, rfl, (x1, x2), hx, rfl, fun H1 e => ⟨true, rfl, iteF ?_⟩⟩
  obtain ⟨p, rfl, hp⟩ := hx.up (sts e)
  have hs1 := e _ _ hs0
  refine ⟨_, rfl, p, _, _, _, rfl, rfl, SqT.of hp, atI_nat (j := 0) rfl, _, _, rfl, rfl, _, rfl, iteD h1 ?_⟩
  refine ⟨_, rfl, p, _, _, _, rfl, rfl, SqT.of hp, atI_nat (j := 1) rfl, _, _, rfl, rfl, _, rfl, iteD h2 ?_⟩
  refine ⟨_, rfl, ps, _, rfl, .inr (SqT.of hs1), _, _, rfl, rfl, _, rfl, iteNB (decide_eq_true (by rw [len]; exact h3)) ?_⟩
  obtain ⟨v1, g1, r1⟩ := pr_get' hl (sAt_get h1 (by omega))
  obtain ⟨v2, g2, r2⟩ := pr_get' hl (sAt_get (by omega) h3)
  obtain ⟨t1, rfl, ht1⟩ := r1.up (sts e)
  obtain ⟨t2, rfl, ht2⟩ := r2.up (sts e)
  have a1 : atI us x1 = some (.ref t1) := at_of (j := x1.toNat) (by omega) g1
  have a2 : atI us x2 = some (.ref t2) := at_of (j := x2.toNat) (by omega) g2
  refine ⟨_, rfl, _, rfl, p, _, _, _, rfl, rfl, SqT.of hp, atI_nat (j := 0) rfl, ps, _, _, _, rfl, rfl, SqT.of hs1, a1, t1, _, _, _, rfl, rfl, SqT.of ht1, atI_nat (j := 0) rfl, _, _, rfl, rfl, _, rfl, ?_⟩
  by_cases h0 : 0 < (sAt ss x1).1
  · exact iteD h0 (q _ e)
  · refine iteND h0 ?_
    refine ⟨_, rfl, _, rfl, p, _, _, _, rfl, rfl, SqT.of hp, atI_nat (j := 1) rfl, ps, _, _, _, rfl, rfl, SqT.of hs1, a2, t2, _, _, _, rfl, rfl, SqT.of ht2, atI_nat (j := 0) rfl, _, _, rfl, rfl, qb (q _ e) (decide_eq_true (by omega))⟩
end
end K30
set_option Elab.async false
set_option linter.all false
set_option maxRecDepth 100000
set_option maxHeartbeats 4000000
namespace K30
open PySem PySem.Spec PyProof.Rows L2
section
variable {P : Program} {w : World} {K : PySem.W.Frag} {mg : Str → Option Value} {base : Heap}
theorem sc_is_kind : FnScope ["thing", "sorts", "item", "one", "later"] ["thing", "sorts"] (defScope s_is_kind) := ⟨rfl, rfl, rfl, by decide +kernel, rfl, by decide +kernel, by decide +kernel⟩
def sp_is_kind : Sp := Sp2 fun a b H Q => ∃ (k : Kd) (ss : List Fr), KdV H a k ∧ LsV H b ss ∧ KindOk ss k ∧ ∀ H', Same H H' → Q (.bl true) H'
theorem lex_of {a b : Fr} (h : lexlt a b) : HT.lexLt [a.1, a.2] [b.1, b.2] = true := by
  rw [HT.lexLt_cons, HT.lexLt_cons, HT.lexLt_nil_nil]
  rcases h with h | ⟨h1, h2⟩
  · rw [if_neg (by omega)]
    exact decide_eq_true h
  · rw [if_pos h1, if_neg (by omega)]
    exact decide_eq_true h2
theorem ok_is_kind (T : Blt mg) (D : DefAt K mg "is_kind" s_is_kind ["thing", "sorts"]) (c_is_pair : Cal P w K mg base 1 "is_pair" ["thing"] sp_is_pair) (c_is_list : Cal P w K mg base 4 "is_list" ["thing"] sp_is_list)
    (c_is_join : Cal P w K mg base 3 "is_join" ["thing", "sorts"] sp_is_join) : Cal P w K mg base 5 "is_kind" ["thing", "sorts"] sp_is_kind := by
  refine cal_of D sc_is_kind len2 fun f cdv A outer s H vs Q E hr h => ?_
  obtain ⟨_, vb, rfl, ⟨l, js⟩, ss, ⟨p, v1, v2, rfl, hp, hl, hj⟩, hs, ⟨k1, k2, k3, k4, k5⟩, q⟩ := h
  dsimp only at hl hj k1 k2 k3 k4 k5
  refine ⟨_, (pss_cons (ps_if (PW.pt (pw_or (pt_not (pt_val (pe_cal c_is_pair hr (by decide) (by rfl) (pa_cons (pv 0) pa_nil)))) (pw_or (pt_not (pt_val (pe_cal c_is_list hr (by decide) (by rfl) (pa_cons (pe_ix ix_tup (pv 0) pe_int (fun _ _ => rfl)) pa_nil)))) (pw_or (pt_not (pt_val (pe_callB call_isi (by rfl) T.b_isinstance (by decide +kernel) (pa_cons (pe_ix ix_tup (pv 0) pe_int (fun _ _ => rfl)) (pa_cons (pe_bltn (v := .ty "tuple") (by rfl) T.b_tuple (by decide +kernel) rfl) pa_nil))))) (pw_or1 (pt_cmpR (op_eqD hr.units) (pe_ix ix_tup (pv 0) pe_int (fun _ _ => rfl)) (pe_tup pa_nil) (nomark _)))))))
    (pss_one (ps_ret pe_bl))
    pss_nil)
    (pss_cons (ps_if (pt_not (pt_val (pe_callB (cr_all rfl) (by rfl) T.b_all (by decide +kernel) (pa_cons (pe_lc (own := [("item", 2)]) (g := (gName 2)) (tt := tYes) rfl sc_is_kind.nd (pi_tup (pe_ix ix_tup (pv 0) pe_int (fun _ _ => rfl))) (blkOk_by (own := [("item", 2)]) (N := ["thing", "sorts", "item", "one", "later"]) (sc := defScope s_is_kind) (by decide +kernel)) (fun _ _ _ _ _ => (pg_name (i := 2) sc_is_kind.nd rfl (.inl rfl))) (fun _ _ _ _ _ => pts_nil) (fun _ _ _ _ _ => (pe_cal c_is_join hr (by decide) (by rfl) (pa_cons (pv 2) (pa_cons (pv 1) pa_nil))))) pa_nil))))
    (pss_one (ps_ret pe_bl))
    pss_nil)
    (pss_one (ps_ret (pe_callB (cr_all rfl) (by rfl) T.b_all (by decide +kernel) (pa_cons (pe_lc (own := [("one", 3), ("later", 4)]) (g := (gTup K 2 (gCons (gName 3) (gCons (gName 4) gNil)))) (tt := tYes) rfl sc_is_kind.nd (RZ.pi_zipA (by rfl) T.b_zip (pa_cons (pe_ix ix_tup (pv 0) pe_int (fun _ _ => rfl)) (pa_cons (pe_slice sl_tupA (pe_ix ix_tup (pv 0) pe_int (fun _ _ => rfl)) (po_some pe_int) po_none) pa_nil))) (blkOk_by (own := [("one", 3), ("later", 4)]) (N := ["thing", "sorts", "item", "one", "later"]) (sc := defScope s_is_kind) (by decide +kernel)) (fun _ _ _ _ _ => (pg_tup rfl (pgs_cons (pg_name (i := 3) sc_is_kind.nd rfl (.inl rfl)) (pgs_cons (pg_name (i := 4) sc_is_kind.nd rfl (.inl rfl)) pgs_nil)))) (fun _ _ _ _ _ => pts_nil) (fun _ _ _ _ _ => (pe_cmpR (show OpR _ (compareOp .Lt) (rLtT K) from op_ltT hr.units0) (pv 3) (pv 4) (nomark _)))) pa_nil)))))), ?_⟩
  refine ⟨_, rfl, _, rfl, p, v1, v2, rfl, hp, true, rfl, iteF ?_⟩
  refine ⟨_, rfl, p, _, _, _, rfl, rfl, SqT.of hp, atI_nat (j := 0) rfl, _, rfl, l, hl, k1, fun H1 e1 => ⟨true, rfl, iteF ?_⟩⟩
  have hp1 := e1 _ _ hp
  obtain ⟨pj, us, rfl, hj1, pr⟩ := lsUp (sts e1) hj
  have len := pr_len pr
  have npos : 1 ≤ js.length := List.length_pos_iff.mpr k2
  refine ⟨_, rfl, p, _, _, _, rfl, rfl, SqT.of hp1, atI_nat (j := 1) rfl, _, _, _, _, true, rfl, .ty "tuple", .base (.tup hj1), kit_ty (by decide +kernel), true, rfl, iteF ?_⟩
  refine ⟨_, rfl, p, _, _, _, rfl, rfl, SqT.of hp1, atI_nat (j := 1) rfl, Nat.zero_le _, fun t ht => ?_⟩
  have e2 : Same H1 (upd H1 t (.tup [])) := same_new ht
  have ht2 : (upd H1 t (.tup [])) t = some (.tup []) := upd_same
  generalize upd H1 t (.tup []) = H2 at e2 ht2
  have pr2 : Paired (FrV H2) us js := L2.Paired.mapP pr fun _ _ z => z.up (sts e2)
  have hp2 := e2 _ _ hp1
  have hj2 := e2 _ _ hj1
  refine ⟨.tuple (js.map fd), .tuple [], .tup (SqT.of hj2) (fds_dp pr2), .tup (SqT.of ht2) .nil, fds_shapedT js, fds_shapedT [], _, rfl, iteBF ?_ ?_⟩
  · cases js with
    | nil => exact absurd rfl k2
    | cons a r => simp [PyData.eqv, PyData.eqvAll]
  have hs2 : LsV H2 vb ss := lsUp (sts (e1.trans e2)) hs
  -- joins
  refine ⟨_, rfl, p, _, _, _, rfl, rfl, SqT.of hp2, atI_nat (j := 1) rfl, pj, rfl, ⟨_, SqT.of hj2⟩, lcT hj2 (by omega) (fun _ y _ => y = .bl true) (fun _ _ _ _ _ z => z) (fun _ => rfl) (fun i x H' hx e Q' k => ?_) (fun L ys H' hL e h1 h2 h3 => ?_)⟩
  · obtain ⟨z, hz, rz⟩ := pr_get pr2 hx
    exact ⟨_, rfl, _, rfl, _, _, rfl, z, ss, rz.up (sts e), lsUp (sts e) hs2, k4 z (List.mem_of_getElem? hz), fun H'' e'' => k _ _ e'' rfl⟩
  rw [bl_ext h2 h3] at h1
  refine ⟨L, _, rfl, SqL.of h1, _, rfl, iteNB (all_t _) ?_⟩
  -- ascending
  have hp3 := e _ _ hp2
  have hj3 := e _ _ hj2
  refine ⟨_, rfl, p, _, _, _, rfl, rfl, SqT.of hp3, atI_nat (j := 1) rfl, _, rfl, p, _, _, _, rfl, rfl, SqT.of hp3, atI_nat (j := 1) rfl, 1, rfl, pj, us, rfl, SqT.of hj3, fun z => absurd z (not_whole1 (by omega)), fun _ p2 hq2 => ?_⟩
  have e4 : Same H' (upd H' p2 (.tup (cutV us (some 1) none))) := same_new hq2
  have hc : (upd H' p2 (.tup (cutV us (some 1) none))) p2 = some (.tup (us.drop 1)) := by
    rw [upd_same, show cutV us (some 1) none = us.drop 1 from cut_from (k := 1)]
  refine ⟨pj, p2, us, us.drop 1, rfl, .inr ⟨SqT.of (e4 _ _ hj3), SqT.of hc, fun L2 hL2 => ?_⟩⟩
  generalize upd H' p2 (.tup (cutV us (some 1) none)) = H4 at e4 hc hL2
  refine lc_it (walk_zipT (n := us.length - 1) (by rw [List.length_drop]; omega)) (fun i H3 => Same H4 H3 ∧ H3 L2 = some (.lst (((List.range i).map fun _ => true).map V.bl))) ⟨same_new hL2, upd_same⟩ (fun i H3 _ z => ⟨SqT.of (z.1 _ _ (e4 _ _ hj3)), SqT.of (z.1 _ _ hc)⟩) (fun i x H5 H6 hi ⟨z1, z2⟩ y => ?_) (fun H5 ⟨z1, z2⟩ => ?_)
  · obtain ⟨t, a, b, rfl, ht, rfl, ha, hb⟩ := y
    have hb : (us.drop 1)[i]? = some b := hb
    rw [List.getElem?_drop] at hb
    obtain ⟨qa, ga, ra⟩ := pr_get pr2 ha
    obtain ⟨qb', gb, rb⟩ := pr_get pr2 hb
    have e6 : Same H5 (upd H5 t (.tup [a, b])) := same_new ht
    have eall : TS H2 (upd H5 t (.tup [a, b])) := sts (((e.trans e4).trans z1).trans e6)
    obtain ⟨ta, rfl, hta⟩ := ra.up eall
    obtain ⟨tb, rfl, htb⟩ := rb.up eall
    refine ⟨t, [_, _], rfl, SqT.of upd_same, rfl, _, [_], rfl, _, [], rfl, rfl, rfl, ?_⟩
    refine ⟨_, rfl, _, rfl, ta, tb, [qa.1, qa.2], [qb'.1, qb'.2], rfl, rfl, SqT.of hta, SqT.of htb, ?_⟩
    refine ⟨_, e6 _ _ z2, z_lt (by simp; omega), same_mut (z1.trans e6) hL2, ?_⟩
    have hle : lexlt qa qb' := by
      obtain ⟨i1, g1⟩ := List.getElem?_eq_some_iff.mp ga
      obtain ⟨i2, g2⟩ := List.getElem?_eq_some_iff.mp gb
      rw [← g1, ← g2]
      exact List.pairwise_iff_getElem.mp k5 i (1 + i) i1 i2 (by omega)
    rw [upd_same, lex_of hle, List.range_succ, List.map_append, List.map_append]
    rfl
  · exact ⟨L2, _, rfl, SqL.of z2, qb (q _ ((((e1.trans e2).trans e).trans e4).trans z1)) (all_t _)⟩
/-! ### the class Book -/
theorem sc_book_init : FnScope ["self", "sorts", "kinds", "number", "kind"] ["self", "sorts", "kinds"] (defScope s_book_init) := ⟨rfl, rfl, rfl, by decide +kernel, rfl, by decide +kernel, by decide +kernel⟩
def sp_book_init (C : Addr) : Sp := Sp3 fun a b c H Q => ∃ (p dx : Addr) (ss : List Fr) (ks : List Kd), a = .ref p ∧ H p = some (.ins C dx []) ∧ LsV H b ss ∧ KsV H c ks ∧ SortsOk ss ∧ KindsOk ss ks ∧
  ∀ H', (∀ x o, x ≠ p → H x = some o → H' x = some o) → H' p = some (.ins C dx (bkf b c)) → Q .non H'
/-- the class, ready to be called -/
def CalB (P : Program) (w : World) (K : PySem.W.Frag) (mg : Str → Option Value) (base : Heap) (k : Nat) (C : Addr) : Prop :=
  ∃ f fd, Mk K C f ∧ FnOk P w K mg base CX0 k f fd ["self", "sorts", "kinds"] (sp_book_init C) ∧ mg "Book" = some (.ref C) ∧ Binds K fd ["self", "sorts", "kinds"] []
def BookAt (K : PySem.W.Frag) (mg : Str → Option Value) (C : Addr) : Prop :=
  BkC K C ∧ mg "Book" = some (.ref C) ∧ ∃ f fd, Mk K C f ∧ FunD K "__init__" "Book.__init__" (defArgs s_book_init) (defBody s_book_init) (defScope s_book_init) [] [] f fd ∧ Binds K fd ["self", "sorts", "kinds"] []
theorem ok_book {C : Addr} (T : Blt mg) (B : BookAt K mg C) (c_are_sorts : Cal P w K mg base 5 "are_sorts" ["thing"] sp_are_sorts) (c_is_kind : Cal P w K mg base 5 "is_kind" ["thing", "sorts"] sp_is_kind) : CalB P w K mg base 6 C := by
  obtain ⟨bc, g, f, fd, M, F, b⟩ := B
  refine ⟨f, fd, M, F.ok sc_book_init len3 fun cdv A outer s H vs Q E hr h => ?_, g, b⟩
  obtain ⟨_, b, c, rfl, p, dx, ss, ks, rfl, hp, hb, ⟨pk, vk, rfl, hk, prk⟩, okS, ⟨okK1, okK2⟩, q⟩ := h
  have len := pr_len prk
  suffices hh : ∃ t, PSs (cxOf CX0 P w K mg base ["self", "sorts", "kinds", "number", "kind"] "Book.__init__" (defScope s_book_init) f cdv A outer s H E).nox (defBody s_book_init) t ∧ t { nx := fun _ H' => Q .non H', rt := Q } (start ["self", "sorts", "kinds", "number", "kind"] [.ref p, b, .ref pk]) H by
    obtain ⟨t, h1, h2⟩ := hh
    exact ⟨t, h1.nox, h2⟩
  refine ⟨_, (pss_cons (ps_if (pt_not (pt_val (pe_cal c_are_sorts hr (by decide) (by rfl) (pa_cons (pv 1) pa_nil))))
    (pss_one ps_never)
    pss_nil)
    (pss_cons (ps_if (PW.pt (pw_or (pt_not (pt_val (pe_callB call_isi (by rfl) T.b_isinstance (by decide +kernel) (pa_cons (pv 2) (pa_cons (pe_bltn (v := .ty "tuple") (by rfl) T.b_tuple (by decide +kernel) rfl) pa_nil))))) (pw_or1 (pt_cmpR op_gt (pe_callB call_len_seq (by rfl) T.b_len (by decide +kernel) (pa_cons (pv 2) pa_nil)) (pe_num (by rfl) T.n_MOST_KINDS) (nomark _)))))
    (pss_one ps_never)
    pss_nil)
    (pss_cons (ps_for PassesOwn.never rfl (pi_enumT (by rfl) T.b_enumerate (pa_cons (pv 2) pa_nil)) (pg_tup rfl (pgs_cons (pg_name (i := 3) sc_book_init.nd rfl (.inl rfl)) (pgs_cons (pg_name (i := 4) sc_book_init.nd rfl (.inl rfl)) pgs_nil)))
    (pss_one (ps_if (pt_not (pt_val (pe_cal c_is_kind hr (by decide) (by rfl) (pa_cons (pv 4) (pa_cons (pv 1) pa_nil)))))
    (pss_one ps_never)
    pss_nil)))
    (pss_cons (ps_fld (pv 0) (pv 1) rfl)
    (pss_one (ps_fld (pv 0) (pv 2) rfl)))))), ?_⟩
  refine ⟨_, rfl, _, rfl, ss, hb, okS, fun H1 e1 => ⟨true, rfl, iteF ?_⟩⟩
  have hk1 := e1 _ _ hk
  refine ⟨_, rfl, _, _, _, _, true, rfl, .ty "tuple", .base (.tup hk1), kit_ty (by decide +kernel), true, rfl, iteF ?_⟩
  refine ⟨_, rfl, pk, _, rfl, .inr (SqT.of hk1), _, _, rfl, rfl, _, rfl, iteND (by omega) ?_⟩
  refine ⟨_, rfl, pk, vk, rfl, SqT.of hk1, for_it walk_enumT (fun i σ H2 => Same H1 H2 ∧ ∃ y1 y2, σ = [some (.ref p), some b, some (.ref pk), y1, y2]) ⟨Same.refl _, none, none, rfl⟩ (fun i σ H2 _ z => SqT.of (z.1 _ _ hk1)) (fun i x σ H2 H3 hi z y => ?_) (fun σ H2 z => ?_)⟩
  · obtain ⟨z1, y1, y2, rfl⟩ := z
    obtain ⟨t, a', b', rfl, ht, rfl, ha, hb'⟩ := y
    have e3 : Same H2 (upd H2 t (.tup [a', b'])) := same_new ht
    have eall := ((e1.trans z1).trans e3)
    obtain ⟨k, gk, rk⟩ := pr_get prk hb'
    refine ⟨t, [a', b'], rfl, SqT.of upd_same, rfl, a', [b'], rfl, b', [], rfl, rfl, ?_⟩
    exact ⟨_, rfl, _, rfl, _, _, rfl, k, ss, rk.up (sts eall), lsUp (sts eall) hb, okK2 k (List.mem_of_getElem? gk), fun H4 e4 => ⟨true, rfl, iteF ⟨(z1.trans e3).trans e4, _, _, rfl⟩⟩⟩
  · obtain ⟨z1, y1, y2, rfl⟩ := z
    have eall := e1.trans z1
    refine ⟨_, rfl, _, rfl, p, C, dx, [], rfl, eall _ _ hp, bc.cl, bc.nS, (by show 0 < 1000; decide), ?_⟩
    refine ⟨_, rfl, _, rfl, p, C, dx, _, rfl, upd_same, bc.cl, bc.nK, (by show 1 < 1000; decide), q _ (fun x o hx ho => ?_) ?_⟩
    · rw [upd_ne hx, upd_ne hx]
      exact eall _ _ ho
    · rw [upd_same]
      rfl
/-! ### fillings.py, the first of calm.py -/
theorem sc_runs_at : FnScope ["units", "number", "found", "unit"] ["units", "number"] (defScope s_runs_at) := ⟨rfl, rfl, rfl, by decide +kernel, rfl, by decide +kernel, by decide +kernel⟩
def sp_runs_at : Sp := Sp2 fun a b H Q => ∃ (p : Addr) (us : List Int) (u : Int), a = .ref p ∧ H p = some (.tup (us.map V.int)) ∧ b = .int u ∧ 1 ≤ u ∧ us.length ≤ 6 ∧ ∀ H', Same H H' → Q (.int (runs us u)) H'
theorem ok_runs_at (T : Blt mg) (D : DefAt K mg "runs_at" s_runs_at ["units", "number"]) : Cal P w K mg base 1 "runs_at" ["units", "number"] sp_runs_at := by
  refine cal_of D sc_runs_at len2 fun f cdv A outer s H vs Q E hr h => ?_
  obtain ⟨_, _, rfl, p, us, u, rfl, hp, rfl, h1, h2, q⟩ := h
  refine ⟨_, (pss_cons (ps_set (i := 2) sc_runs_at.nd rfl (.inl rfl) (pe_callB call_len_seq (by rfl) T.b_len (by decide +kernel) (pa_cons (pe_lc (own := [("unit", 3)]) (g := (gName 3)) rfl sc_runs_at.nd (pi_tup (pv 0)) (blkOk_by (own := [("unit", 3)]) (N := ["units", "number", "found", "unit"]) (sc := defScope s_runs_at) (by decide +kernel)) (fun _ _ _ _ _ => (pg_name (i := 3) sc_runs_at.nd rfl (.inl rfl))) (fun _ _ _ _ _ => (pts_one (pt_cmpR op_le (pv 3) (pe_callB call_abs (by rfl) T.b_abs (by decide +kernel) (pa_cons (pv 1) pa_nil)) (nomark _)))) (fun _ _ _ _ _ => (pv 3))) pa_nil)))
    (pss_one (ps_ret (pe_ifExp (pt_cmpR op_gt (pv 1) pe_int (nomark _)) (pv 2) (pe_un un_neg (pv 2)))))), ?_⟩
  refine ⟨_, rfl, p, rfl, ⟨_, SqT.of hp⟩, fun L hL => ?_⟩
  refine lc_tup (xs := us.map V.int) (fun i H3 => Same H H3 ∧ H3 L = some (.lst (((us.take i).filter fun x => decide (x ≤ u)).map V.int))) ⟨same_new hL, upd_same⟩ (fun i H3 _ z => SqT.of (z.1 _ _ hp)) (fun i x H3 hx ⟨z1, z2⟩ => ?_) (fun H3 ⟨z1, z2⟩ => ?_)
  · rw [List.getElem?_map] at hx
    cases hu : us[i]? with
    | none =>
      rw [hu] at hx
      cases hx
    | some y =>
      rw [hu] at hx
      cases hx
      have hi := (List.getElem?_eq_some_iff.mp hu).1
      have ab : (if u < 0 then -u else u) = u := if_neg (by omega)
      refine ⟨rfl, _, rfl, _, rfl, u, rfl, _, _, rfl, rfl, _, rfl, ?_⟩
      rw [ab]
      by_cases hy : y ≤ u
      · refine iteD hy ⟨_, rfl, _, z2, z_lt ?_, same_mut z1 hL, ?_⟩
        · rw [List.length_map]
          have := List.length_filter_le (fun x => decide (x ≤ u)) (us.take i)
          rw [List.length_take] at this
          omega
        · rw [upd_same, List.take_add_one, hu, List.filter_append, List.map_append]
          simp [hy]
      · refine iteND hy ⟨z1, ?_⟩
        rw [List.take_add_one, hu, List.filter_append, z2]
        simp [hy]
  · rw [List.length_map, List.take_length] at z2
    refine ⟨L, _, rfl, .inl (SqL.of z2), ?_⟩
    refine ⟨_, rfl, _, _, rfl, rfl, _, rfl, iteD (show (0 : Int) < u by omega) ⟨_, rfl, qi (q _ z1) ?_⟩⟩
    unfold runs
    rw [List.length_map]
theorem sc_swing : FnScope ["one", "other", "grains", "width", "cap"] ["one", "other", "grains"] (defScope s_swing) := ⟨rfl, rfl, rfl, by decide +kernel, rfl, by decide +kernel, by decide +kernel⟩
def sp_swing : Sp := Sp3 fun a b c H Q => ∃ (x y : Fr) (g : Int), FrV H a x ∧ FrV H b y ∧ c = .int g ∧ SortOk x ∧ SortOk y ∧ 1 ≤ g ∧ g ≤ 60 ∧ ∀ H', Same H H' → Q (.int (swI x y g)) H'
def psw (x y : Fr) (g : Int) : Nat → Int
  | 0 => 0
  | 1 => sw1 x g
  | _ => swI x y g
theorem ok_swing (T : Blt mg) (D : DefAt K mg "swing" s_swing ["one", "other", "grains"]) : Cal P w K mg base 1 "swing" ["one", "other", "grains"] sp_swing := by
  refine cal_of D sc_swing len3 fun f cdv A outer s H vs Q E hr h => ?_
  obtain ⟨v1, v2, _, rfl, x, y, g, r1, r2, rfl, ok1, ok2, g1, g2, q⟩ := h
  refine ⟨_, (pss_one (ps_ret (pe_callB (cr_sum rfl) (by rfl) T.b_sum (by decide +kernel) (pa_cons (pe_lc (own := [("width", 3), ("cap", 4)]) (g := (gTup K 2 (gCons (gName 3) (gCons (gName 4) gNil)))) rfl sc_swing.nd (pi_tup (pe_tup (pa_cons (pv 0) (pa_cons (pv 1) pa_nil)))) (blkOk_by (own := [("width", 3), ("cap", 4)]) (N := ["one", "other", "grains", "width", "cap"]) (sc := defScope s_swing) (by decide +kernel)) (fun _ _ _ _ _ => (pg_tup rfl (pgs_cons (pg_name (i := 3) sc_swing.nd rfl (.inl rfl)) (pgs_cons (pg_name (i := 4) sc_swing.nd rfl (.inl rfl)) pgs_nil)))) (fun _ _ _ _ _ => (pts_one (pt_cmpR op_gt (pv 3) pe_int (nomark _)))) (fun _ _ _ _ _ => (pe_op op_fdiv (pe_op op_mul (pv 4) (pv 2)) (pv 3)))) pa_nil)))), ?_⟩
  refine ⟨_, rfl, _, rfl, (by show 2 ≤ sizeLine; decide), fun t ht => ?_⟩
  have e1 : Same H (upd H t (.tup [v1, v2])) := same_new ht
  have ht1 : (upd H t (.tup [v1, v2])) t = some (.tup [v1, v2]) := upd_same
  generalize upd H t (.tup [v1, v2]) = H1 at e1 ht1
  refine ⟨t, rfl, ⟨_, SqT.of ht1⟩, fun L hL => ?_⟩
  refine lc_tup (xs := [v1, v2]) (fun i H3 => Same H1 H3 ∧ ∃ ns : List Int, H3 L = some (.lst (ns.map V.int)) ∧ ns.length ≤ i ∧ ns.sum = psw x y g i) ⟨same_new hL, [], upd_same, Nat.le_refl _, rfl⟩ (fun i H3 _ z => SqT.of (z.1 _ _ ht1)) (fun i v H3 hx ⟨z1, ns, z2, z3, z4⟩ => ?_) (fun H3 ⟨z1, ns, z2, z3, z4⟩ => ?_)
  · have hq : ∃ z : Fr, FrV H3 v z ∧ SortOk z ∧ psw x y g (i + 1) = psw x y g i + sw1 z g := by
      match i, hx with
      | 0, hx =>
        cases hx
        exact ⟨x, r1.up (sts (e1.trans z1)), ok1, (Int.zero_add _).symm⟩
      | 1, hx =>
        cases hx
        exact ⟨y, r2.up (sts (e1.trans z1)), ok2, rfl⟩
    have hi : i < 2 := (List.getElem?_eq_some_iff.mp hx).1
    obtain ⟨⟨a, b⟩, ⟨tz, rfl, htz⟩, okz, ez⟩ := hq
    have wd : 0 ≤ a ∧ a ≤ 12 := Wd_le okz.1
    have cp : 1 ≤ b ∧ b ≤ 6 := okz.2
    refine ⟨tz, _, rfl, SqT.of htz, rfl, _, _, rfl, _, _, rfl, rfl, rfl, ?_⟩
    refine ⟨_, rfl, _, _, rfl, rfl, _, rfl, ?_⟩
    by_cases h0 : 0 < a
    · refine iteD h0 ⟨_, rfl, _, rfl, _, _, rfl, rfl, .inl ⟨by omega, by omega⟩, _, rfl, _, _, rfl, rfl, ⟨h0, by omega⟩, ?_⟩
      refine ⟨_, z2, z_lt (by rw [List.length_map]; omega), same_mut z1 hL, ns ++ [b * g / a], ?_, ?_, ?_⟩
      · rw [upd_same, List.map_append]
        rfl
      · rw [List.length_append, List.length_singleton]
        omega
      · have : sw1 (a, b) g = b * g / a := if_pos h0
        rw [List.sum_append, z4, ez, this]
        simp
    · refine iteND h0 ⟨z1, ns, z2, by omega, ?_⟩
      have : sw1 (a, b) g = 0 := if_neg h0
      rw [z4, ez, this]
      omega
  · exact ⟨L, ns, rfl, SqL.of z2, qi (q _ (e1.trans z1)) z4⟩
theorem sc_grains_of : FnScope ["one", "other"] ["one", "other"] (defScope s_grains_of) := ⟨rfl, rfl, rfl, by decide +kernel, rfl, by decide +kernel, by decide +kernel⟩
def sp_grains_of : Sp := Sp2 fun a b H Q => ∃ x y : Fr, FrV H a x ∧ FrV H b y ∧ x.1 ∈ Wd ∧ y.1 ∈ Wd ∧ ¬ (x.1 = 0 ∧ y.1 = 0) ∧ Q (.int (grn x.1 y.1)) H
theorem ok_grains_of (T : Blt mg) (D : DefAt K mg "grains_of" s_grains_of ["one", "other"]) (c_parts_of_grain : Cal P w K mg base 3 "parts_of_grain" ["width", "other"] sp_parts_of_grain) : Cal P w K mg base 4 "grains_of" ["one", "other"] sp_grains_of := by
  refine cal_of D sc_grains_of len2 fun f cdv A outer s H vs Q E hr h => ?_
  obtain ⟨_, _, rfl, x, y, ⟨p1, rfl, h1⟩, ⟨p2, rfl, h2⟩, w1, w2, hn, q⟩ := h
  have b1 := Wd_le w1
  have b2 := Wd_le w2
  refine ⟨_, (pss_one (ps_ret (pe_cal c_parts_of_grain hr (by decide) (by rfl) (pa_cons (pe_ix ix_tup (pv 0) pe_int (fun _ _ => rfl)) (pa_cons (pe_ix ix_tup (pv 1) pe_int (fun _ _ => rfl)) pa_nil))))), ?_⟩
  exact ⟨_, rfl, p1, _, _, _, rfl, rfl, SqT.of h1, atI_nat (j := 0) rfl, _, rfl, p2, _, _, _, rfl, rfl, SqT.of h2, atI_nat (j := 0) rfl, _, _, rfl, x.1, y.1, rfl, rfl, b1.1, b1.2, b2.1, b2.2, hn, q⟩
end
end K30
set_option Elab.async false
set_option linter.all false
set_option maxRecDepth 100000
set_option maxHeartbeats 4000000
namespace K30
open PySem PySem.Spec PyProof.Rows L2
section
variable {P : Program} {w : World} {K : PySem.W.Frag} {mg : Str → Option Value} {base : Heap}
/-! ### calm.py: breaches -/
def oV : Option Int → V
  | none => .non
  | some u => .int u
theorem take_mem {α : Type} {l : List α} {n : Nat} {x : α} (h : x ∈ l.take (n + 1)) : x ∈ l.take n ∨ l[n]? = some x := by
  rw [List.take_add_one] at h
  rcases List.mem_append.mp h with h | h
  · exact .inl h
  · exact .inr (Option.mem_toList.mp h)
theorem sc_first_breach : FnScope ["steps", "one", "other", "grains", "far", "units", "unit"] ["steps", "one", "other"] (defScope s_first_breach) := ⟨rfl, rfl, rfl, by decide +kernel, rfl, by decide +kernel, by decide +kernel⟩
def sp_first_breach : Sp := Sp3 fun a b c H Q => ∃ (l : List Fr) (x y : Fr), LsV H a l ∧ FrV H b x ∧ FrV H c y ∧ LsOk l ∧ SortOk x ∧ SortOk y ∧ ¬ (x.1 = 0 ∧ y.1 = 0) ∧ ∀ H', Same H H' → Q (oV (fbI (l.map (upL (grn x.1 y.1))) (swI x y (grn x.1 y.1)))) H'
theorem ok_first_breach (T : Blt mg) (D : DefAt K mg "first_breach" s_first_breach ["steps", "one", "other"]) (c_grains_of : Cal P w K mg base 4 "grains_of" ["one", "other"] sp_grains_of) (c_swing : Cal P w K mg base 1 "swing" ["one", "other", "grains"] sp_swing)
    (c_in_grains : Cal P w K mg base 3 "in_grains" ["steps", "grains"] sp_in_grains) (c_runs_at : Cal P w K mg base 1 "runs_at" ["units", "number"] sp_runs_at) : Cal P w K mg base 5 "first_breach" ["steps", "one", "other"] sp_first_breach := by
  refine cal_of D sc_first_breach len3 fun f cdv A outer s H vs Q E hr h => ?_
  obtain ⟨va, vb, vc, rfl, l, x, y, hl, hx, hy, okl, okx, oky, hn, q⟩ := h
  have gk := grn_ok okx.1 oky.1 hn
  refine ⟨_, (pss_cons (ps_set (i := 3) sc_first_breach.nd rfl (.inl rfl) (pe_cal c_grains_of hr (by decide) (by rfl) (pa_cons (pv 1) (pa_cons (pv 2) pa_nil))))
    (pss_cons (ps_set (i := 4) sc_first_breach.nd rfl (.inl rfl) (pe_cal c_swing hr (by decide) (by rfl) (pa_cons (pv 1) (pa_cons (pv 2) (pa_cons (pv 3) pa_nil)))))
    (pss_cons (ps_set (i := 5) sc_first_breach.nd rfl (.inl rfl) (pe_cal c_in_grains hr (by decide) (by rfl) (pa_cons (pv 0) (pa_cons (pv 3) pa_nil))))
    (pss_cons (ps_for PassesOwn.never rfl (pi_tup (pv 5)) (pg_name (i := 6) sc_first_breach.nd rfl (.inl rfl))
    (pss_one (ps_if (pt_cmpR op_ge (pe_op op_mul (pe_cal c_runs_at hr (by decide) (by rfl) (pa_cons (pv 5) (pa_cons (pv 6) pa_nil))) (pv 4)) (pe_op op_mul pe_int (pv 6)) (nomark _))
    (pss_one (ps_ret (pv 6)))
    pss_nil)))
    (pss_one (ps_ret pe_non)))))), ?_⟩
  refine ⟨_, rfl, _, rfl, _, _, rfl, x, y, hx, hy, okx.1, oky.1, hn, ?_⟩
  refine ⟨_, rfl, _, rfl, _, rfl, _, _, _, rfl, x, y, _, hx, hy, rfl, okx, oky, gk.1, gk.2.1, fun H1 e1 => ?_⟩
  refine ⟨_, rfl, _, rfl, _, _, rfl, l, _, lsUp (sts e1) hl, rfl, okl.2.2.1, okl.2.1, gk.1, gk.2.1, fun H2 pu e2 hu => ?_⟩
  generalize hus : l.map (upL (grn x.1 y.1)) = us at hu q
  generalize hfar : swI x y (grn x.1 y.1) = far at q
  have ulen : us.length ≤ 6 := by
    rw [← hus, List.length_map]
    exact okl.2.1
  have upos : ∀ u ∈ us, 1 ≤ u ∧ u ≤ 60000000 := fun u h => by
    rw [← hus] at h
    exact units_pos gk.1 gk.2.1 okl.2.2.1 h
  refine ⟨_, rfl, pu, rfl, ⟨_, SqT.of hu⟩, for_tup (fun i σ H3 => Same H2 H3 ∧ (∀ (j : Nat) (h : j < us.length), j < i → ¬ (2 * us[j] ≤ runs us us[j] * far)) ∧ ∃ z, σ = [some va, some vb, some vc, some (.int (grn x.1 y.1)), some (.int far), some (.ref pu), z]) ⟨Same.refl _, fun j _ z => absurd z (Nat.not_lt_zero _), none, by rw [← hfar]; rfl⟩ (fun i σ H3 _ z => SqT.of (z.1 _ _ hu)) (fun i v σ H3 hv z => ?_) (fun σ H3 z => ?_)⟩
  · obtain ⟨z1, z2, z3, rfl⟩ := z
    rw [List.getElem?_map] at hv
    cases hui : us[i]? with
    | none =>
      rw [hui] at hv
      cases hv
    | some u =>
      rw [hui] at hv
      cases hv
      obtain ⟨hi, hiu⟩ := List.getElem?_eq_some_iff.mp hui
      have up := upos u (List.mem_of_getElem? hui)
      have rl := runs_le us u
      refine ⟨_, rfl, _, rfl, _, _, rfl, pu, us, u, rfl, z1 _ _ hu, rfl, up.1, ulen, fun H4 e4 => ?_⟩
      refine ⟨_, rfl, _, _, rfl, rfl, .inl ⟨by omega, by omega⟩, _, rfl, _, _, rfl, rfl, .inl ⟨by omega, by omega⟩, _, _, rfl, rfl, _, rfl, ?_⟩
      by_cases hb : 2 * u ≤ runs us u * far
      · refine iteD hb ⟨_, rfl, ?_⟩
        have e : fbI us far = some u := by
          unfold fbI
          refine List.find?_eq_some_iff_getElem.mpr ⟨decide_eq_true hb, i, hi, hiu, fun j hj => ?_⟩
          rw [decide_eq_false (z2 j (by omega) hj)]
          rfl
        have q2 := q H4 (((e1.trans e2).trans z1).trans e4)
        rw [e] at q2
        exact q2
      · refine iteND hb ⟨z1.trans e4, fun j hj hji => ?_, _, rfl⟩
        by_cases hc : j < i
        · exact z2 j hj hc
        · have ej : j = i := by omega
          subst ej
          rw [hiu]
          exact hb
  · obtain ⟨z1, z2, z3, rfl⟩ := z
    have e : fbI us far = none := by
      unfold fbI
      refine List.find?_eq_none.mpr fun u hu => ?_
      obtain ⟨j, hj, e⟩ := List.mem_iff_getElem.mp hu
      have := z2 j hj (by rw [List.length_map]; exact hj)
      rw [e] at this
      simpa using this
    have q2 := q H3 ((e1.trans e2).trans z1)
    rw [e] at q2
    exact q2
theorem sc_sorts_at : FnScope ["book", "pair"] ["book", "pair"] (defScope s_sorts_at) := ⟨rfl, rfl, rfl, by decide +kernel, rfl, by decide +kernel, by decide +kernel⟩
def sp_sorts_at (C : Addr) : Sp := Sp2 fun a b H Q => ∃ (ss : List Fr) (ks : List Kd) (j : Fr), BkV C H a ss ks ∧ FrV H b j ∧ JoinOk ss j ∧ ∀ H' p v1 v2, Same H H' → H' p = some (.tup [v1, v2]) → FrV H' v1 (sAt ss j.1) → FrV H' v2 (sAt ss j.2) → Q (.ref p) H'
theorem ok_sorts_at {C : Addr} (T : Blt mg) (bc : BkC K C) (D : DefAt K mg "sorts_at" s_sorts_at ["book", "pair"]) : Cal P w K mg base 1 "sorts_at" ["book", "pair"] (sp_sorts_at C) := by
  refine cal_of D sc_sorts_at len2 fun f cdv A outer s H vs Q E hr h => ?_
  obtain ⟨_, _, rfl, ss, ks, j, ⟨p, dx, w1, w2, rfl, hp, ⟨ps, us, rfl, hs, pr⟩, hk⟩, ⟨pj, rfl, hj⟩, ⟨j1, j2, j3, j4⟩, q⟩ := h
  obtain ⟨v1, g1, r1⟩ := pr_get' pr (sAt_get j1 (by omega))
  obtain ⟨v2, g2, r2⟩ := pr_get' pr (sAt_get (show 0 ≤ j.2 by omega) j3)
  have a1 : atI us j.1 = some v1 := at_of (j := j.1.toNat) (by omega) g1
  have a2 : atI us j.2 = some v2 := at_of (j := j.2.toNat) (by omega) g2
  refine ⟨_, (pss_one (ps_ret (pe_tup (pa_cons (pe_ix ix_tup (pe_fld (pv 0) rfl) (pe_ix ix_tup (pv 1) pe_int (fun _ _ => rfl)) (fun _ _ => rfl)) (pa_cons (pe_ix ix_tup (pe_fld (pv 0) rfl) (pe_ix ix_tup (pv 1) pe_int (fun _ _ => rfl)) (fun _ _ => rfl)) pa_nil))))), ?_⟩
  refine ⟨_, rfl, p, C, dx, _, _, rfl, hp, bc.cl, bc.nS, bkf_s _ _, _, rfl, pj, _, _, _, rfl, rfl, SqT.of hj, atI_nat (j := 0) rfl, ps, us, _, _, rfl, rfl, SqT.of hs, a1, ?_⟩
  refine ⟨_, rfl, p, C, dx, _, _, rfl, hp, bc.cl, bc.nS, bkf_s _ _, _, rfl, pj, _, _, _, rfl, rfl, SqT.of hj, atI_nat (j := 1) rfl, ps, us, _, _, rfl, rfl, SqT.of hs, a2, (by show 2 ≤ sizeLine; decide), fun t ht => ?_⟩
  have e := same_new (o := .tup [v1, v2]) ht
  exact q _ t v1 v2 e upd_same (r1.up (sts e)) (r2.up (sts e))
/-- a breach as it is told -/
def BrV (H : Hp) (v : V) (ss : List Fr) (ks : List Kd) : Prop := ∃ (t : Addr) (n : Nat) (v2 v3 : V) (k : Kd) (j : Fr) (u : Int), v = .ref t ∧ H t = some (.tup [.int (n : Int), v2, v3]) ∧ ks[n]? = some k ∧ j ∈ k.2 ∧ FrV H v2 j ∧ u ∈ k.1.map (upL (gP ss j)) ∧ FrV H v3 (lowI u (gP ss j))
theorem sc_breach : FnScope ["book", "number", "steps", "joins", "pair", "one", "other", "unit"] ["book"] (defScope s_breach) := ⟨rfl, rfl, rfl, by decide +kernel, rfl, by decide +kernel, by decide +kernel⟩
def sp_breach (C : Addr) : Sp := Sp1 fun a H Q => ∃ (ss : List Fr) (ks : List Kd), BkV C H a ss ks ∧ SortsOk ss ∧ KindsOk ss ks ∧ ∀ H' v, Same H H' → ((v = .non ∧ CalmP ss ks) ∨ (BrV H' v ss ks ∧ ¬ CalmP ss ks)) → Q v H'
theorem ok_breach {C : Addr} (T : Blt mg) (bc : BkC K C) (D : DefAt K mg "breach" s_breach ["book"]) (c_sorts_at : Cal P w K mg base 1 "sorts_at" ["book", "pair"] (sp_sorts_at C)) (c_first_breach : Cal P w K mg base 5 "first_breach" ["steps", "one", "other"] sp_first_breach)
    (c_made : Cal P w K mg base 2 "made" ["top", "bottom"] sp_made) (c_grains_of : Cal P w K mg base 4 "grains_of" ["one", "other"] sp_grains_of) : Cal P w K mg base 6 "breach" ["book"] (sp_breach C) := by
  refine cal_of D sc_breach len1 fun f cdv A outer s H vs Q E hr h => ?_
  obtain ⟨va, rfl, ss, ks, hb, okS, okK, q⟩ := h
  obtain ⟨p, dx, w1, w2, rfl, hp, hs, ⟨pk, uk, rfl, hk, prk⟩⟩ := id hb
  refine ⟨_, (pss_cons (ps_for PassesOwn.never rfl (pi_enumT (by rfl) T.b_enumerate (pa_cons (pe_fld (pv 0) rfl) pa_nil)) (pg_tup rfl (pgs_cons (pg_name (i := 1) sc_breach.nd rfl (.inl rfl)) (pgs_cons (pg_tup rfl (pgs_cons (pg_name (i := 2) sc_breach.nd rfl (.inl rfl)) (pgs_cons (pg_name (i := 3) sc_breach.nd rfl (.inl rfl)) pgs_nil))) pgs_nil)))
    (pss_one (ps_for PassesOwn.never rfl (pi_tup (pv 3)) (pg_name (i := 4) sc_breach.nd rfl (.inl rfl))
    (pss_cons (ps_asg (pe_cal c_sorts_at hr (by decide) (by rfl) (pa_cons (pv 0) (pa_cons (pv 4) pa_nil))) (pg_tup rfl (pgs_cons (pg_name (i := 5) sc_breach.nd rfl (.inl rfl)) (pgs_cons (pg_name (i := 6) sc_breach.nd rfl (.inl rfl)) pgs_nil))))
    (pss_cons (ps_set (i := 7) sc_breach.nd rfl (.inl rfl) (pe_cal c_first_breach hr (by decide) (by rfl) (pa_cons (pv 2) (pa_cons (pv 5) (pa_cons (pv 6) pa_nil)))))
    (pss_one (ps_if (pt_cmpR op_notN (pv 7) pe_non (nomark _))
    (pss_one (ps_ret (pe_tup (pa_cons (pv 1) (pa_cons (pv 4) (pa_cons (pe_cal c_made hr (by decide) (by rfl) (pa_cons (pv 7) (pa_cons (pe_cal c_grains_of hr (by decide) (by rfl) (pa_cons (pv 5) (pa_cons (pv 6) pa_nil))) pa_nil))) pa_nil))))))
    pss_nil)))))))
    (pss_one (ps_ret pe_non))), ?_⟩
  refine ⟨_, rfl, p, C, dx, _, _, rfl, hp, bc.cl, bc.nK, bkf_k _ _, pk, uk, rfl, SqT.of hk, for_it walk_enumT (fun i σ H1 => Same H H1 ∧ (∀ k ∈ ks.take i, ∀ j ∈ k.2, CalmU (k.1.map (upL (gP ss j))) (rP ss j)) ∧ ∃ y1 y2 y3 y4 y5 y6 y7, σ = [some (.ref p), y1, y2, y3, y4, y5, y6, y7]) ⟨Same.refl _, fun k z => by simp at z, none, none, none, none, none, none, none, rfl⟩ (fun i σ H1 _ z => SqT.of (z.1 _ _ hk)) (fun i x σ H1 H2 hi z y => ?_) (fun σ H1 z => ?_)⟩
  · obtain ⟨z1, z2, y1, y2, y3, y4, y5, y6, y7, rfl⟩ := z
    obtain ⟨t, a', b', rfl, ht, rfl, ha, hb'⟩ := y
    cases ha
    obtain ⟨⟨l, js⟩, gk, rk⟩ := pr_get prk hb'
    have e2 : Same H1 (upd H1 t (.tup [.int (i : Nat), b'])) := same_new ht
    have ht2 : (upd H1 t (.tup [.int (i : Nat), b'])) t = some (.tup [.int (i : Nat), b']) := upd_same
    generalize upd H1 t (.tup [.int (i : Nat), b']) = H2 at e2 ht2
    have e12 := z1.trans e2
    obtain ⟨tk, u1, u2, rfl, htk, hl2, ⟨pj, uj, rfl, hj2, prj⟩⟩ := rk.up (sts e12)
    have okk := okK.2 _ (List.mem_of_getElem? gk)
    have jlen := pr_len prj
    refine ⟨t, _, rfl, SqT.of ht2, rfl, _, _, rfl, _, _, rfl, ⟨tk, _, rfl, SqT.of htk, rfl, _, _, rfl, _, _, rfl, rfl, rfl, ?_⟩⟩
    refine ⟨_, rfl, pj, rfl, ⟨_, SqT.of hj2⟩, for_tup (fun m σ H3 => Same H2 H3 ∧ (∀ j ∈ js.take m, CalmU (l.map (upL (gP ss j))) (rP ss j)) ∧ ∃ y4 y5 y6 y7, σ = [some (.ref p), some (.int (i : Nat)), some u1, some (.ref pj), y4, y5, y6, y7]) ⟨Same.refl _, fun k z => by simp at z, _, _, _, _, rfl⟩ (fun m σ H3 _ z => SqT.of (z.1 _ _ hj2)) (fun m v σ H3 hv z => ?_) (fun σ H3 z => ?_)⟩
    · obtain ⟨z3, z4, y4, y5, y6, y7, rfl⟩ := z
      obtain ⟨j, gj, rj⟩ := pr_get prj hv
      have okj := okk.2.2.2.1 j (List.mem_of_getElem? gj)
      obtain ⟨s1, s2, s3⟩ := join_sorts okS okj
      have gok := gP_ok okS okj
      have e3 := e12.trans z3
      refine ⟨_, rfl, _, rfl, _, _, rfl, ss, ks, j, hb.up e3, rj.up (sts z3), okj, fun H4 pt v1 v2 e4 hpt f1 f2 => ?_⟩
      refine ⟨pt, _, rfl, SqT.of hpt, rfl, _, _, rfl, _, _, rfl, rfl, ?_⟩
      refine ⟨_, rfl, _, rfl, _, rfl, _, _, _, rfl, l, _, _, lsUp (sts (z3.trans e4)) hl2, f1, f2, okk.1, s1, s2, s3, fun H5 e5 => ?_⟩
      have hfar : swI (sAt ss j.1) (sAt ss j.2) (grn (sAt ss j.1).1 (sAt ss j.2).1) = rP ss j := rP_sw okS okj
      have hmono : (l.map (upL (gP ss j))).Pairwise (· ≤ ·) := units_mono gok.1 okk.1
      have hcalm := calm_none hmono (rP_le okS okj).1
      rw [hfar]
      generalize hfb : fbI (l.map (upL (grn (sAt ss j.1).1 (sAt ss j.2).1))) (rP ss j) = fb
      have hfb : fbI (l.map (upL (gP ss j))) (rP ss j) = fb := hfb
      cases fb with
      | none =>
        refine ⟨_, rfl, rfl, _, rfl, iteF ⟨(z3.trans e4).trans e5, fun j' hj' => ?_, _, _, _, _, rfl⟩⟩
        rcases take_mem hj' with hj' | hj'
        · exact z4 j' hj'
        · cases gj.symm.trans hj'
          exact hcalm.mp hfb
      | some u =>
        refine ⟨_, rfl, rfl, _, rfl, iteT ?_⟩
        have hu : u ∈ l.map (upL (gP ss j)) := List.mem_of_find?_eq_some hfb
        refine ⟨_, rfl, _, rfl, _, rfl, _, rfl, _, rfl, _, _, rfl, _, _, f1.up (sts e5), f2.up (sts e5), s1.1, s2.1, s3, _, _, rfl, u, gP ss j, rfl, rfl, gok.1, by omega, fun H6 v3 e6 hv3 => ?_⟩
        refine ⟨(by show 3 ≤ sizeLine; decide), fun t6 ht6 => ?_⟩
        have e7 := same_new (o := .tup [.int (i : Nat), v, v3]) ht6
        have e47 := ((e4.trans e5).trans e6).trans e7
        refine q _ _ (e3.trans e47) (.inr ⟨⟨t6, i, v, v3, (l, js), j, u, rfl, upd_same, gk, List.mem_of_getElem? gj, rj.up (sts (z3.trans e47)), hu, hv3.up (sts e7)⟩, fun hC => ?_⟩)
        have h0 := hC _ (List.mem_of_getElem? gk) j (List.mem_of_getElem? gj)
        rw [hcalm.mpr h0] at hfb
        cases hfb
    · obtain ⟨z3, z4, y4, y5, y6, y7, rfl⟩ := z
      refine ⟨e12.trans z3, fun k hk' j hj' => ?_, _, _, _, _, _, _, _, rfl⟩
      rcases take_mem hk' with hk' | hk'
      · exact z2 k hk' j hj'
      · cases gk.symm.trans hk'
        refine z4 j ?_
        rw [jlen, List.take_length]
        exact hj'
  · obtain ⟨z1, z2, y1, y2, y3, y4, y5, y6, y7, rfl⟩ := z
    refine q _ _ z1 (.inl ⟨rfl, fun k hk' => z2 k ?_⟩)
    rw [pr_len prk, List.take_length]
    exact hk'
theorem sc_calm : FnScope ["book"] ["book"] (defScope s_calm) := ⟨rfl, rfl, rfl, by decide +kernel, rfl, by decide +kernel, by decide +kernel⟩
def sp_calm (C : Addr) : Sp := Sp1 fun a H Q => ∃ (ss : List Fr) (ks : List Kd), BkV C H a ss ks ∧ SortsOk ss ∧ KindsOk ss ks ∧ ∀ H' b, Same H H' → (b = true ↔ CalmP ss ks) → Q (.bl b) H'
theorem ok_calm {C : Addr} (T : Blt mg) (D : DefAt K mg "calm" s_calm ["book"]) (c_breach : Cal P w K mg base 6 "breach" ["book"] (sp_breach C)) : Cal P w K mg base 7 "calm" ["book"] (sp_calm C) := by
  refine cal_of D sc_calm len1 fun f cdv A outer s H vs Q E hr h => ?_
  obtain ⟨va, rfl, ss, ks, hb, okS, okK, q⟩ := h
  refine ⟨_, (pss_one (ps_ret (pe_cmpR op_isN (pe_cal c_breach hr (by decide) (by rfl) (pa_cons (pv 0) pa_nil)) pe_non (nomark _)))), ?_⟩
  refine ⟨_, rfl, _, rfl, ss, ks, hb, okS, okK, fun H' v e z => ⟨rfl, q _ _ e ?_⟩⟩
  rcases z with ⟨rfl, z⟩ | ⟨⟨t, _, _, _, _, _, _, rfl, _⟩, z⟩
  · simp [z]
  · simp [z]
end
end K30
set_option Elab.async false
set_option linter.all false
set_option maxRecDepth 100000
set_option maxHeartbeats 4000000
namespace K30
open PySem PySem.Spec PyProof.Rows L2
section
variable {P : Program} {w : World} {K : PySem.W.Frag} {mg : Str → Option Value} {base : Heap}
/-! ### calm.py: losses -/
def LoOk (q : Fr) : Prop := 1 ≤ q.1 ∧ 1 ≤ q.2 ∧ q.2 ≤ 60 ∧ Int.gcd q.1 q.2 = 1
theorem lo_of {i g : Int} (hi : 1 ≤ i) (h1 : 1 ≤ g) (h2 : g ≤ 60) : LoOk (lowI i g) := by
  have a := lowI_1 h1 hi
  have b := lowI_2 (i := i) h1
  exact ⟨a.1, b.1, by omega, lowI_gcd h1⟩
theorem sc_losses : FnScope ["book", "capped", "found", "steps", "joins", "pair", "one", "other", "grains", "far", "units", "unit"] ["book", "capped"] (defScope s_losses) := ⟨rfl, rfl, rfl, by decide +kernel, rfl, by decide +kernel, by decide +kernel⟩
def sp_losses (C : Addr) : Sp := Sp2 fun a b H Q => ∃ (ss : List Fr) (ks : List Kd), BkV C H a ss ks ∧ b = .bl true ∧ SortsOk ss ∧ KindsOk ss ks ∧ CalmP ss ks ∧
  ∀ H' L ys qs, Same H H' → H' L = some (.lst ys) → Paired (FrV H') ys qs → (∀ q ∈ qs, LoOk q) → (qs = [] ↔ ks = []) → ys.length ≤ 500 → Q (.ref L) H'
theorem ok_losses {C : Addr} (T : Blt mg) (bc : BkC K C) (D : DefAt K mg "losses" s_losses ["book", "capped"]) (c_sorts_at : Cal P w K mg base 1 "sorts_at" ["book", "pair"] (sp_sorts_at C)) (c_grains_of : Cal P w K mg base 4 "grains_of" ["one", "other"] sp_grains_of) (c_swing : Cal P w K mg base 1 "swing" ["one", "other", "grains"] sp_swing)
    (c_in_grains : Cal P w K mg base 3 "in_grains" ["steps", "grains"] sp_in_grains) (c_runs_at : Cal P w K mg base 1 "runs_at" ["units", "number"] sp_runs_at) (c_made : Cal P w K mg base 2 "made" ["top", "bottom"] sp_made) : Cal P w K mg base 5 "losses" ["book", "capped"] (sp_losses C) := by
  refine cal_of D sc_losses len2 fun f cdv A outer s H vs Q E hr h => ?_
  obtain ⟨va, _, rfl, ss, ks, hb, rfl, okS, okK, hC, q⟩ := h
  obtain ⟨p, dx, w1, w2, rfl, hp, hs, ⟨pk, uk, rfl, hk, prk⟩⟩ := id hb
  have klen := pr_len prk
  refine ⟨_, (pss_cons (ps_set (i := 2) sc_losses.nd rfl (.inl rfl) (pe_lst pa_nil))
    (pss_cons (ps_for PassesOwn.never rfl (pi_tup (pe_fld (pv 0) rfl)) (pg_tup rfl (pgs_cons (pg_name (i := 3) sc_losses.nd rfl (.inl rfl)) (pgs_cons (pg_name (i := 4) sc_losses.nd rfl (.inl rfl)) pgs_nil)))
    (pss_one (ps_for PassesOwn.never rfl (pi_tup (pv 4)) (pg_name (i := 5) sc_losses.nd rfl (.inl rfl))
    (pss_cons (ps_asg (pe_cal c_sorts_at hr (by decide) (by rfl) (pa_cons (pv 0) (pa_cons (pv 5) pa_nil))) (pg_tup rfl (pgs_cons (pg_name (i := 6) sc_losses.nd rfl (.inl rfl)) (pgs_cons (pg_name (i := 7) sc_losses.nd rfl (.inl rfl)) pgs_nil))))
    (pss_cons (ps_if (pt_not (pt_val (pv 1)))
    (pss_one (ps_par (i := 6) (j := 7) (by rfl) sc_losses.nd rfl rfl (by decide) rfl rfl (pa_cons (pe_tup (pa_cons (pe_ix ix_tup (pv 6) pe_int (fun _ _ => rfl)) (pa_cons pe_int pa_nil))) (pa_cons (pe_tup (pa_cons (pe_ix ix_tup (pv 7) pe_int (fun _ _ => rfl)) (pa_cons pe_int pa_nil))) pa_nil)) (by rfl)))
    pss_nil)
    (pss_cons (ps_set (i := 8) sc_losses.nd rfl (.inr rfl) (pe_cal c_grains_of hr (by decide) (by rfl) (pa_cons (pv 6) (pa_cons (pv 7) pa_nil))))
    (pss_cons (ps_set (i := 9) sc_losses.nd rfl (.inr rfl) (pe_cal c_swing hr (by decide) (by rfl) (pa_cons (pv 6) (pa_cons (pv 7) (pa_cons (pv 8) pa_nil)))))
    (pss_cons (ps_set (i := 10) sc_losses.nd rfl (.inr rfl) (pe_cal c_in_grains hr (by decide) (by rfl) (pa_cons (pv 3) (pa_cons (pv 8) pa_nil))))
    (pss_one (ps_expr (pe_bm PySem.F.plainAttrs_list PySem.F.slot_list_extend PySem.F.type_list_extend mt_extend (pv 2) (pa_cons (pe_lc (own := [("unit", 11)]) (g := (gName 11)) (tt := tYes) rfl sc_losses.nd (pi_tup (pv 10)) (blkOk_by (own := [("unit", 11)]) (N := ["book", "capped", "found", "steps", "joins", "pair", "one", "other", "grains", "far", "units", "unit"]) (sc := defScope s_losses) (by decide +kernel)) (fun _ _ _ _ _ => (pg_name (i := 11) sc_losses.nd rfl (.inl rfl))) (fun _ _ _ _ _ => pts_nil) (fun _ _ _ _ _ => (pe_cal c_made hr (by decide) (by rfl) (pa_cons (pe_op op_sub (pe_op op_mul pe_int (pv 11)) (pe_op op_mul (pe_cal c_runs_at hr (by decide) (by rfl) (pa_cons (pv 10) (pa_cons (pv 11) pa_nil))) (pv 9))) (pa_cons (pv 8) pa_nil))))) pa_nil))))))))))))
    (pss_one (ps_ret (pv 2))))), ?_⟩
  refine ⟨Nat.zero_le _, fun L hL => ?_⟩
  have e0 : Same H (upd H L (.lst [])) := same_new hL
  have hL0 : (upd H L (.lst [])) L = some (.lst []) := upd_same
  generalize upd H L (.lst []) = H0 at e0 hL0
  refine ⟨_, rfl, p, C, dx, _, _, rfl, e0 _ _ hp, bc.cl, bc.nK, bkf_k _ _, pk, rfl, ⟨_, SqT.of (e0 _ _ hk)⟩, for_tup (xs := uk) (fun i σ H1 => Same H H1 ∧ (∃ ys qs, H1 L = some (.lst ys) ∧ Paired (FrV H1) ys qs ∧ (∀ q ∈ qs, LoOk q) ∧ (qs = [] ↔ i = 0) ∧ ys.length ≤ 96 * i) ∧ ∃ y3 y4 y5 y6 y7 y8 y9 y10 y11, σ = [some (.ref p), some (.bl true), some (.ref L), y3, y4, y5, y6, y7, y8, y9, y10, y11]) ⟨e0, ⟨[], [], hL0, .nil, fun _ z => by simp at z, by simp, Nat.le_refl _⟩, none, none, none, none, none, none, none, none, none, rfl⟩ (fun i σ H1 _ z => SqT.of (z.1 _ _ hk)) (fun i x σ H1 hx z => ?_) (fun σ H1 z => ?_)⟩
  · obtain ⟨z1, ⟨ys, qs, z2, z3, z4, z5, z6⟩, y3, y4, y5, y6, y7, y8, y9, y10, y11, rfl⟩ := z
    obtain ⟨⟨l, js⟩, gk, rk⟩ := pr_get prk hx
    obtain ⟨tk, u1, u2, rfl, htk, hl2, ⟨pj, uj, rfl, hj2, prj⟩⟩ := rk.up (sts z1)
    have okk := okK.2 _ (List.mem_of_getElem? gk)
    have jlen : uj.length = js.length := pr_len prj
    have hi := (List.getElem?_eq_some_iff.mp hx).1
    have k5 := okK.1
    have npos : 1 ≤ js.length := List.length_pos_iff.mpr (show js ≠ [] from okk.2.1)
    have jl10 : js.length ≤ 16 := okk.2.2.1
    refine ⟨tk, _, rfl, SqT.of htk, rfl, _, _, rfl, _, _, rfl, rfl, ?_⟩
    refine ⟨_, rfl, pj, rfl, ⟨_, SqT.of hj2⟩, for_tup (fun m σ H3 => Same H H3 ∧ TS H1 H3 ∧ (∃ ys qs, H3 L = some (.lst ys) ∧ Paired (FrV H3) ys qs ∧ (∀ q ∈ qs, LoOk q) ∧ (qs = [] ↔ i = 0 ∧ m = 0) ∧ ys.length ≤ 96 * i + 6 * m) ∧ ∃ y5 y6 y7 y8 y9 y10 y11, σ = [some (.ref p), some (.bl true), some (.ref L), some u1, some (.ref pj), y5, y6, y7, y8, y9, y10, y11]) ⟨z1, TS.refl _, ⟨ys, qs, z2, z3, z4, by rw [z5]; simp, by omega⟩, _, _, _, _, _, _, _, rfl⟩ (fun m σ H3 _ z => SqT.of (z.2.1 _ _ hj2)) (fun m v σ H3 hv z => ?_) (fun σ H3 z => ?_)⟩
    · obtain ⟨a1, a2, ⟨ys, qs, b2, b3, b4, b5, b6⟩, y5, y6, y7, y8, y9, y10, y11, rfl⟩ := z
      obtain ⟨j, gj, rj⟩ := pr_get prj hv
      have hm := (List.getElem?_eq_some_iff.mp hv).1
      have okj := okk.2.2.2.1 j (List.mem_of_getElem? gj)
      obtain ⟨s1, s2, s3⟩ := join_sorts okS okj
      have gok := gP_ok okS okj
      have hcu := hC _ (List.mem_of_getElem? gk) j (List.mem_of_getElem? gj)
      have hmono : (l.map (upL (gP ss j))).Pairwise (· ≤ ·) := units_mono gok.1 okk.1
      have hrl := rP_le okS okj
      refine ⟨_, rfl, _, rfl, _, _, rfl, ss, ks, j, hb.up a1, rj.up a2, okj, fun H4 pt v1 v2 e4 hpt f1 f2 => ?_⟩
      refine ⟨pt, _, rfl, SqT.of hpt, rfl, _, _, rfl, _, _, rfl, rfl, ?_⟩
      refine ⟨_, rfl, true, rfl, iteF ?_⟩
      refine ⟨_, rfl, _, rfl, _, _, rfl, _, _, f1, f2, s1.1, s2.1, s3, ?_⟩
      refine ⟨_, rfl, _, rfl, _, rfl, _, _, _, rfl, _, _, gP ss j, f1, f2, rfl, s1, s2, gok.1, gok.2, fun H5 e5 => ?_⟩
      rw [rP_sw okS okj]
      refine ⟨_, rfl, _, rfl, _, _, rfl, l, gP ss j, lsUp (a2.trans (sts (e4.trans e5))) hl2, rfl, okk.1.2.2.1, okk.1.2.1, gok.1, gok.2, fun H6 pu e6 hu => ?_⟩
      -- found.extend
      have e36 := (e4.trans e5).trans e6
      have hL6 := e36 _ _ b2
      refine ⟨_, rfl, .inl ⟨rfl, _, SqL.of hL6⟩, ?_⟩
      generalize hus : l.map (upL (gP ss j)) = us at hu hcu hmono
      have ulen : us.length = l.length := by rw [← hus, List.length_map]
      have upos : ∀ u ∈ us, 1 ≤ u ∧ u ≤ 60000000 := fun u h => by
        rw [← hus] at h
        exact units_pos gok.1 gok.2 okk.1.2.2.1 h
      have l6 : l.length ≤ 6 := okk.1.2.1
      have l1 : 1 ≤ l.length := okk.1.1
      refine ⟨_, rfl, pu, rfl, ⟨_, SqT.of hu⟩, lcT hu (by rw [List.length_map]; omega) (fun H y n => ∃ u, us[n]? = some u ∧ FrV H y (lowI (2 * u - runs us u * rP ss j) (gP ss j))) (fun H H' y n e ⟨u, c1, c2⟩ => ⟨u, c1, c2.up e⟩) (fun _ => rfl) (fun n x H7 hx e7 Q' k => ?_) (fun M2 zs H7 hM2 e7 h1 h2 h3 => ?_)⟩
      · rw [List.getElem?_map] at hx
        cases hui : us[n]? with
        | none =>
          rw [hui] at hx
          cases hx
        | some u =>
          rw [hui] at hx
          cases hx
          have up := upos u (List.mem_of_getElem? hui)
          have rl := runs_le us u
          refine ⟨_, rfl, _, _, rfl, rfl, .inl ⟨by omega, by omega⟩, _, rfl, _, rfl, _, _, rfl, pu, us, u, rfl, e7 _ _ hu, rfl, up.1, by omega, fun H8 e8 => ?_⟩
          refine ⟨_, rfl, _, _, rfl, rfl, .inl ⟨by omega, by omega⟩, _, _, rfl, rfl, _, rfl, _, _, rfl, _, gP ss j, rfl, rfl, gok.1, by omega, fun H9 v e9 hv => k _ _ (e8.trans e9) ⟨u, hui, hv⟩⟩
      · have prz : Paired (FrV H7) zs (us.map fun u => lowI (2 * u - runs us u * rP ss j) (gP ss j)) := by
          refine pr_ext (by rw [h2, List.length_map, List.length_map]) fun n y hn => ?_
          obtain ⟨u, c1, c2⟩ := h3 n y hn
          exact ⟨_, by rw [List.getElem?_map, c1]; rfl, c2⟩
        have hL7 := e7 _ _ hL6
        have tlast : TS H7 (upd H7 L (.lst (ys ++ zs))) := ts_upd hL7
        have zlen : zs.length = us.length := by rw [h2, List.length_map]
        refine ⟨L, M2, ys, zs, rfl, rfl, hL7, h1, z_le (by omega), ?_⟩
        refine ⟨same_mut ((a1.trans e36).trans e7) hL, a2.trans ((sts (e36.trans e7)).trans tlast), ⟨ys ++ zs, qs ++ us.map fun u => lowI (2 * u - runs us u * rP ss j) (gP ss j), upd_same, ?_, ?_, ?_, ?_⟩, _, _, _, _, _, _, _, rfl⟩
        · exact pr_app (L2.Paired.mapP b3 fun _ _ z => z.up ((sts (e36.trans e7)).trans tlast)) (L2.Paired.mapP prz fun _ _ z => z.up tlast)
        · intro q hq
          rcases List.mem_append.mp hq with hq | hq
          · exact b4 q hq
          · obtain ⟨u, hu, rfl⟩ := List.mem_map.mp hq
            have := calm_lt hmono hrl.1 hcu hu
            exact lo_of (by omega) gok.1 gok.2
        · constructor
          · intro z
            have z2 := (List.append_eq_nil_iff.mp z).2
            have : us.length = 0 := by
              rw [← List.length_map (as := us), z2]
              rfl
            omega
          · intro z
            omega
        · rw [List.length_append]
          omega
    · obtain ⟨a1, a2, ⟨ys, qs, b2, b3, b4, b5, b6⟩, y5, y6, y7, y8, y9, y10, y11, rfl⟩ := z
      refine ⟨a1, ⟨ys, qs, b2, b3, b4, ?_, by omega⟩, _, _, _, _, _, _, _, _, _, rfl⟩
      rw [b5]
      omega
  · obtain ⟨z1, ⟨ys, qs, z2, z3, z4, z5, z6⟩, y3, y4, y5, y6, y7, y8, y9, y10, y11, rfl⟩ := z
    have k5 := okK.1
    refine ⟨_, rfl, q _ L ys qs z1 z2 z3 z4 ?_ (by omega)⟩
    rw [z5, klen]
    exact List.length_eq_zero_iff
theorem sc_loss : FnScope ["book", "found", "least", "one"] ["book"] (defScope s_loss) := ⟨rfl, rfl, rfl, by decide +kernel, rfl, by decide +kernel, by decide +kernel⟩
def sp_loss (C : Addr) : Sp := Sp1 fun a H Q => ∃ (ss : List Fr) (ks : List Kd), BkV C H a ss ks ∧ SortsOk ss ∧ KindsOk ss ks ∧ CalmP ss ks ∧
  ∀ H' v, Same H H' → ((ks = [] ∧ v = .non) ∨ (ks ≠ [] ∧ ∃ x, FrV H' v x ∧ LoOk x)) → Q v H'
theorem ok_loss {C : Addr} (T : Blt mg) (D : DefAt K mg "loss" s_loss ["book"]) (c_calm : Cal P w K mg base 7 "calm" ["book"] (sp_calm C)) (c_losses : Cal P w K mg base 5 "losses" ["book", "capped"] (sp_losses C)) (c_is_below : Cal P w K mg base 1 "is_below" ["one", "other"] sp_is_below) : Cal P w K mg base 8 "loss" ["book"] (sp_loss C) := by
  refine cal_of D sc_loss len1 fun f cdv A outer s H vs Q E hr h => ?_
  obtain ⟨va, rfl, ss, ks, hb, okS, okK, hC, q⟩ := h
  refine ⟨_, (pss_cons (ps_if (pt_not (pt_val (pe_cal c_calm hr (by decide) (by rfl) (pa_cons (pv 0) pa_nil))))
    (pss_one ps_never)
    pss_nil)
    (pss_cons (ps_set (i := 1) sc_loss.nd rfl (.inl rfl) (pe_cal c_losses hr (by decide) (by rfl) (pa_cons (pv 0) (pa_cons pe_bl pa_nil))))
    (pss_cons (ps_if (pt_cmpR op_eq (pe_callB call_len_seq (by rfl) T.b_len (by decide +kernel) (pa_cons (pv 1) pa_nil)) pe_int (nomark _))
    (pss_one (ps_ret pe_non))
    pss_nil)
    (pss_cons (ps_set (i := 2) sc_loss.nd rfl (.inl rfl) (pe_ix ix_list (pv 1) pe_int (fun _ _ => rfl)))
    (pss_cons (ps_for PassesOwn.never rfl (pi_list (pv 1)) (pg_name (i := 3) sc_loss.nd rfl (.inl rfl))
    (pss_one (ps_if (pt_val (pe_cal c_is_below hr (by decide) (by rfl) (pa_cons (pv 3) (pa_cons (pv 2) pa_nil))))
    (pss_one (ps_set (i := 2) sc_loss.nd rfl (.inl rfl) (pv 3)))
    pss_nil)))
    (pss_one (ps_ret (pv 2)))))))), ?_⟩
  refine ⟨_, rfl, _, rfl, ss, ks, hb, okS, okK, fun H1 b e1 hcb => ⟨b, rfl, iteNB (hcb.mpr hC) ?_⟩⟩
  refine ⟨_, rfl, _, _, rfl, ss, ks, hb.up e1, rfl, okS, okK, hC, fun H2 L ys qs e2 hL pr hq hn hlen => ?_⟩
  have len := pr_len pr
  refine ⟨_, rfl, L, ys, rfl, .inl (SqL.of hL), rfl, _, rfl, ?_⟩
  by_cases h0 : ys = []
  · subst h0
    refine iteD rfl (q _ _ (e1.trans e2) (.inl ⟨hn.mp ((pr_ne pr).mp rfl), rfl⟩))
  · have h1 : 1 ≤ ys.length := List.length_pos_iff.mpr h0
    refine iteND (fun z => by have := V.int.inj z; omega) ?_
    have hks : ks ≠ [] := fun z => h0 ((pr_ne pr).mpr (hn.mpr z))
    obtain ⟨y0, r, rfl⟩ : ∃ y0 r, ys = y0 :: r := by
      cases ys with
      | nil => exact absurd rfl h0
      | cons y0 r => exact ⟨y0, r, rfl⟩
    obtain ⟨x0, gx0, rx0⟩ := pr_get (i := 0) pr rfl
    refine ⟨_, rfl, L, _, _, _, rfl, rfl, SqL.of hL, atI_nat (j := 0) rfl, ?_⟩
    refine ⟨_, rfl, L, rfl, ⟨_, SqL.of hL⟩, for_list (xs := y0 :: r) (fun i σ H3 => Same H2 H3 ∧ ∃ v z x, σ = [some va, some (.ref L), some v, z] ∧ FrV H3 v x ∧ LoOk x) ⟨Same.refl _, y0, none, x0, rfl, rx0, hq x0 (List.mem_of_getElem? gx0)⟩ (fun i σ H3 _ z => SqL.of (z.1 _ _ hL)) (fun i y σ H3 hy z => ?_) (fun σ H3 z => ?_)⟩
    · obtain ⟨z1, v, z, x, rfl, hv, okx⟩ := z
      obtain ⟨x', gx', rx'⟩ := pr_get pr hy
      have okx' := hq x' (List.mem_of_getElem? gx')
      have b1 := okx.2
      have b2 := okx'.2
      refine ⟨_, rfl, _, rfl, _, _, rfl, x', x, rx'.up (sts z1), hv, by omega, by omega, by omega, by omega, _, rfl, ?_⟩
      refine ite2 (fun _ => ?_) (fun _ => ?_)
      · exact ⟨_, rfl, z1, _, _, x', rfl, rx'.up (sts z1), okx'⟩
      · exact ⟨z1, _, _, x, rfl, hv, okx⟩
    · obtain ⟨z1, v, z, x, rfl, hv, okx⟩ := z
      exact ⟨_, rfl, q _ _ ((e1.trans e2).trans z1) (.inr ⟨hks, x, hv, okx⟩)⟩
end
end K30
set_option Elab.async false
set_option linter.all false
set_option maxRecDepth 100000
set_option maxHeartbeats 4000000
namespace K30
open PySem PySem.Spec PyProof.Rows L2
section
variable {P : Program} {w : World} {K : PySem.W.Frag} {mg : Str → Option Value} {base : Heap}
/-! ### the law's helpers -/
theorem sc__law_is_int : FnScope ["_law_thing"] ["_law_thing"] (defScope s__law_is_int) := ⟨rfl, rfl, rfl, by decide +kernel, rfl, by decide +kernel, by decide +kernel⟩
def sp__law_is_int : Sp := Sp1 fun a H Q => ∃ i : Int, a = .int i ∧ Q (.bl true) H
theorem ok__law_is_int (T : Blt mg) (D : DefAt K mg "_law_is_int" s__law_is_int ["_law_thing"]) : Cal P w K mg base 1 "_law_is_int" ["_law_thing"] sp__law_is_int := by
  refine cal_of D sc__law_is_int len1 fun f cdv A outer s H vs Q E hr h => ?_
  obtain ⟨_, rfl, i, rfl, q⟩ := h
  refine ⟨_, (pss_one (ps_ret (pe_and (pe_callB call_isi (by rfl) T.b_isinstance (by decide +kernel) (pa_cons (pv 0) (pa_cons (pe_bltn (v := .ty "int") (by rfl) T.b_int (by decide +kernel) rfl) pa_nil))) (pe_one (pe_not (pe_callB call_isi (by rfl) T.b_isinstance (by decide +kernel) (pa_cons (pv 0) (pa_cons (pe_bltn (v := .ty "bool") (by rfl) T.b_bool (by decide +kernel) rfl) pa_nil)))))))), ?_⟩
  refine ⟨_, rfl, _, _, _, _, true, rfl, .ty "int", .base (.int i), kit_ty (by decide +kernel), true, rfl, iteT ?_⟩
  exact ⟨_, rfl, _, _, _, _, false, rfl, .ty "bool", .base (.int i), kit_ty (by decide +kernel), false, rfl, q⟩
theorem sc__law_flag : FnScope ["_law_told", "_law_due"] ["_law_told", "_law_due"] (defScope s__law_flag) := ⟨rfl, rfl, rfl, by decide +kernel, rfl, by decide +kernel, by decide +kernel⟩
def sp__law_flag : Sp := Sp2 fun a b H Q => ∃ x y : Bool, a = .bl x ∧ b = .bl y ∧ Q (.bl (decide (V.bl x = V.bl y))) H
theorem ok__law_flag (T : Blt mg) (D : DefAt K mg "_law_flag" s__law_flag ["_law_told", "_law_due"]) : Cal P w K mg base 1 "_law_flag" ["_law_told", "_law_due"] sp__law_flag := by
  refine cal_of D sc__law_flag len2 fun f cdv A outer s H vs Q E hr h => ?_
  obtain ⟨_, _, rfl, x, y, rfl, rfl, q⟩ := h
  refine ⟨_, (pss_one (ps_ret (pe_and (pe_callB call_isi (by rfl) T.b_isinstance (by decide +kernel) (pa_cons (pv 0) (pa_cons (pe_bltn (v := .ty "bool") (by rfl) T.b_bool (by decide +kernel) rfl) pa_nil))) (pe_one (pe_cmpR op_eq (pv 0) (pv 1) (nomark _)))))), ?_⟩
  refine ⟨_, rfl, _, _, _, _, true, rfl, .ty "bool", .base (.bl x), kit_ty (by decide +kernel), true, rfl, iteT ?_⟩
  exact ⟨_, rfl, _, rfl, rfl, q⟩
theorem sc__law_divisor : FnScope ["_law_one", "_law_other"] ["_law_one", "_law_other"] (defScope s__law_divisor) := ⟨rfl, rfl, rfl, by decide +kernel, rfl, by decide +kernel, by decide +kernel⟩
def sp__law_divisor : Sp := Sp2 fun a b H Q => ∃ i j : Int, a = .int i ∧ b = .int j ∧ 0 ≤ i ∧ 0 ≤ j ∧ Q (.int (gcdI i j)) H
theorem ok__law_divisor (T : Blt mg) (D : DefAt K mg "_law_divisor" s__law_divisor ["_law_one", "_law_other"]) : Cal P w K mg base 1 "_law_divisor" ["_law_one", "_law_other"] sp__law_divisor := by
  refine cal_of D sc__law_divisor len2 fun f cdv A outer s H vs Q E hr h => ?_
  obtain ⟨_, _, rfl, i, j, rfl, rfl, h1, h2, q⟩ := h
  refine ⟨_, (pss_cons (ps_while PassesOwn.never (pt_cmpR op_gt (pv 1) pe_int (nomark _))
    (pss_one (ps_par (i := 0) (j := 1) (by rfl) sc__law_divisor.nd rfl rfl (by decide) rfl rfl (pa_cons (pv 1) (pa_cons (pe_op op_mod (pe_callTy call_int1 (by rfl) T.b_int (by decide +kernel) (pa_cons (pv 0) pa_nil)) (pv 1)) pa_nil)) (by rfl))))
    (pss_one (ps_ret (pv 0)))), ?_⟩
  refine ⟨WDiv H i j, ⟨_, i, j, rfl, rfl, h1, h2, rfl, rfl⟩, ?_⟩
  rintro m σ H' ⟨a, b, rfl, rfl, ha, hb, hg, rfl⟩
  refine ⟨_, rfl, _, _, rfl, rfl, _, rfl, ?_⟩
  by_cases h0 : 0 < b
  · refine iteD h0 ⟨fun σ' H'' => ∃ m', m' < b.toNat ∧ WDiv H' i j m' σ' H'', fun _ _ z => z, ?_⟩
    refine ⟨_, rfl, _, rfl, .inl ⟨_, rfl, _, rfl, _, _, rfl, rfl, h0, _, _, rfl, ?_⟩⟩
    have e1 := Int.emod_nonneg a (show b ≠ 0 by omega)
    have e2 := Int.emod_lt_of_pos a h0
    exact ⟨(a % b).toNat, by omega, b, a % b, rfl, rfl, by omega, e1, gcd_step.trans hg, rfl⟩
  · refine iteND h0 ?_
    have e : b = 0 := by omega
    subst e
    refine ⟨_, rfl, qi q ?_⟩
    have e2 : gcdI i j = gcdI a 0 := by
      unfold gcdI
      rw [hg]
    rw [e2, gcd_zero_r]
    omega
theorem sc__law_lowest : FnScope ["_law_top", "_law_bottom", "_law_part"] ["_law_top", "_law_bottom"] (defScope s__law_lowest) := ⟨rfl, rfl, rfl, by decide +kernel, rfl, by decide +kernel, by decide +kernel⟩
def sp__law_lowest : Sp := Sp2 fun a b H Q => ∃ i j : Int, a = .int i ∧ b = .int j ∧ 1 ≤ j ∧ j ≤ 1000000000 ∧ ∀ H' v, Same H H' → FrV H' v (lowI i j) → Q v H'
theorem ok__law_lowest (T : Blt mg) (D : DefAt K mg "_law_lowest" s__law_lowest ["_law_top", "_law_bottom"]) (c__law_divisor : Cal P w K mg base 1 "_law_divisor" ["_law_one", "_law_other"] sp__law_divisor) : Cal P w K mg base 2 "_law_lowest" ["_law_top", "_law_bottom"] sp__law_lowest := by
  refine cal_of D sc__law_lowest len2 fun f cdv A outer s H vs Q E hr h => ?_
  obtain ⟨_, _, rfl, i, j, rfl, rfl, h3, h4, q⟩ := h
  refine ⟨_, (pss_cons (ps_set (i := 2) sc__law_lowest.nd rfl (.inl rfl) (pe_cal c__law_divisor hr (by decide) (by rfl) (pa_cons (pe_callB call_abs (by rfl) T.b_abs (by decide +kernel) (pa_cons (pv 0) pa_nil)) (pa_cons (pv 1) pa_nil))))
    (pss_one (ps_ret (pe_tup (pa_cons (pe_op op_fdiv (pv 0) (pv 2)) (pa_cons (pe_op op_fdiv (pv 1) (pv 2)) pa_nil)))))), ?_⟩
  have g1 := gcdI_pos (i := i) h3
  have g2 := gcdI_le (i := i) h3
  have ea : gcdI (if i < 0 then -i else i) j = gcdI i j := by
    have := gcd_abs i j
    rw [if_neg (show ¬ j < 0 by omega)] at this
    unfold gcdI
    rw [this]
  refine ⟨_, rfl, i, rfl, _, rfl, _, _, rfl, _, j, rfl, rfl, by split <;> omega, by omega, ?_⟩
  rw [ea]
  refine ⟨_, rfl, _, rfl, _, _, rfl, rfl, ⟨by omega, by omega⟩, _, rfl, _, rfl, _, _, rfl, rfl, ⟨by omega, by omega⟩, (by show 2 ≤ sizeLine; decide), fun p hp => ?_⟩
  exact q _ _ (same_new hp) ⟨p, rfl, upd_same⟩
theorem sc__law_grains : FnScope ["_law_width", "_law_other"] ["_law_width", "_law_other"] (defScope s__law_grains) := ⟨rfl, rfl, rfl, by decide +kernel, rfl, by decide +kernel, by decide +kernel⟩
def sp__law_grains : Sp := Sp2 fun a b H Q => ∃ i j : Int, a = .int i ∧ b = .int j ∧ 0 ≤ i ∧ i ≤ 12 ∧ 0 ≤ j ∧ j ≤ 12 ∧ ¬ (i = 0 ∧ j = 0) ∧ Q (.int (grn i j)) H
theorem ok__law_grains (T : Blt mg) (D : DefAt K mg "_law_grains" s__law_grains ["_law_width", "_law_other"]) (c__law_divisor : Cal P w K mg base 1 "_law_divisor" ["_law_one", "_law_other"] sp__law_divisor) : Cal P w K mg base 2 "_law_grains" ["_law_width", "_law_other"] sp__law_grains := by
  refine cal_of D sc__law_grains len2 fun f cdv A outer s H vs Q E hr h => ?_
  obtain ⟨_, _, rfl, i, j, rfl, rfl, h1, h2, h3, h4, h5, q⟩ := h
  have em : i = 0 ∨ j = 0 → (if j > i then j else i) = grn i j := fun z => by
    unfold grn
    rw [if_pos z]
  refine ⟨_, (pss_cons (ps_if (PW.pt (pw_or (pt_cmpR op_eq (pv 0) pe_int (nomark _)) (pw_or1 (pt_cmpR op_eq (pv 1) pe_int (nomark _)))))
    (pss_one (ps_ret (pe_callB (call_max2 rfl) (by rfl) T.b_max (by decide +kernel) (pa_cons (pv 0) (pa_cons (pv 1) pa_nil)))))
    pss_nil)
    (pss_one (ps_ret (pe_op op_mul (pe_op op_fdiv (pv 0) (pe_cal c__law_divisor hr (by decide) (by rfl) (pa_cons (pv 0) (pa_cons (pv 1) pa_nil)))) (pv 1))))), ?_⟩
  refine ⟨_, rfl, rfl, _, rfl, ?_⟩
  by_cases hi : i = 0
  · refine iteD (congrArg V.int hi) ?_
    exact ⟨_, rfl, _, rfl, i, j, rfl, qi q (em (.inl hi))⟩
  · refine iteND (fun z => hi (V.int.inj z)) ?_
    refine ⟨_, rfl, rfl, _, rfl, ?_⟩
    by_cases hj : j = 0
    · refine iteD (congrArg V.int hj) ?_
      exact ⟨_, rfl, _, rfl, i, j, rfl, qi q (em (.inr hj))⟩
    · refine iteND (fun z => hj (V.int.inj z)) ?_
      have g1 := gcdI_pos (i := i) (show 1 ≤ j by omega)
      have g2 := gcdI_le (i := i) (show 1 ≤ j by omega)
      refine ⟨_, rfl, _, rfl, _, rfl, _, _, rfl, i, j, rfl, rfl, h1, h3, _, _, rfl, rfl, ⟨by omega, by omega⟩, _, rfl, _, _, rfl, rfl, .inr ⟨by omega, by omega⟩, qi q ?_⟩
      unfold grn
      rw [if_neg (by omega)]
theorem sc__law_pair_grains : FnScope ["_law_sorts_here", "_law_pair"] ["_law_sorts_here", "_law_pair"] (defScope s__law_pair_grains) := ⟨rfl, rfl, rfl, by decide +kernel, rfl, by decide +kernel, by decide +kernel⟩
def sp__law_pair_grains : Sp := Sp2 fun a b H Q => ∃ (ss : List Fr) (j : Fr), LsV H a ss ∧ FrV H b j ∧ SortsOk ss ∧ JoinOk ss j ∧ Q (.int (gP ss j)) H
theorem ok__law_pair_grains (T : Blt mg) (D : DefAt K mg "_law_pair_grains" s__law_pair_grains ["_law_sorts_here", "_law_pair"]) (c__law_grains : Cal P w K mg base 2 "_law_grains" ["_law_width", "_law_other"] sp__law_grains) : Cal P w K mg base 3 "_law_pair_grains" ["_law_sorts_here", "_law_pair"] sp__law_pair_grains := by
  refine cal_of D sc__law_pair_grains len2 fun f cdv A outer s H vs Q E hr h => ?_
  obtain ⟨_, _, rfl, ss, j, ⟨ps, us, rfl, hs, pr⟩, ⟨pj, rfl, hj⟩, okS, okj, q⟩ := h
  obtain ⟨s1, s2, s3⟩ := join_sorts okS okj
  obtain ⟨j1, j2, j3, j4⟩ := okj
  obtain ⟨_, g1, t1, rfl, r1⟩ := pr_get' pr (sAt_get j1 (by omega))
  obtain ⟨_, g2, t2, rfl, r2⟩ := pr_get' pr (sAt_get (show 0 ≤ j.2 by omega) j3)
  have a1 : atI us j.1 = some (.ref t1) := at_of (j := j.1.toNat) (by omega) g1
  have a2 : atI us j.2 = some (.ref t2) := at_of (j := j.2.toNat) (by omega) g2
  have b1 := Wd_le s1.1
  have b2 := Wd_le s2.1
  refine ⟨_, (pss_one (ps_ret (pe_cal c__law_grains hr (by decide) (by rfl) (pa_cons (pe_ix ix_tup (pe_ix ix_tup (pv 0) (pe_ix ix_tup (pv 1) pe_int (fun _ _ => rfl)) (fun _ _ => rfl)) pe_int (fun _ _ => rfl)) (pa_cons (pe_ix ix_tup (pe_ix ix_tup (pv 0) (pe_ix ix_tup (pv 1) pe_int (fun _ _ => rfl)) (fun _ _ => rfl)) pe_int (fun _ _ => rfl)) pa_nil))))), ?_⟩
  refine ⟨_, rfl, _, rfl, pj, _, _, _, rfl, rfl, SqT.of hj, atI_nat (j := 0) rfl, ps, _, _, _, rfl, rfl, SqT.of hs, a1, t1, _, _, _, rfl, rfl, SqT.of r1, atI_nat (j := 0) rfl, ?_⟩
  exact ⟨_, rfl, _, rfl, pj, _, _, _, rfl, rfl, SqT.of hj, atI_nat (j := 1) rfl, ps, _, _, _, rfl, rfl, SqT.of hs, a2, t2, _, _, _, rfl, rfl, SqT.of r2, atI_nat (j := 0) rfl, _, _, rfl, _, _, rfl, rfl, b1.1, b1.2, b2.1, b2.2, s3, q⟩
theorem sc__law_room : FnScope ["_law_sorts_here", "_law_pair", "_law_grains_here", "_law_found", "_law_sort", "_law_width", "_law_cap"] ["_law_sorts_here", "_law_pair", "_law_grains_here"] (defScope s__law_room) := ⟨rfl, rfl, rfl, by decide +kernel, rfl, by decide +kernel, by decide +kernel⟩
def sp__law_room : Sp := Sp3 fun a b c H Q => ∃ (ss : List Fr) (j : Fr), LsV H a ss ∧ FrV H b j ∧ c = .int (gP ss j) ∧ SortsOk ss ∧ JoinOk ss j ∧ Q (.int (rP ss j)) H
def prm (ss : List Fr) (j : Fr) : Nat → Int
  | 0 => 0
  | 1 => rm1 (sAt ss j.1) (gP ss j)
  | _ => rP ss j
theorem ok__law_room (T : Blt mg) (D : DefAt K mg "_law_room" s__law_room ["_law_sorts_here", "_law_pair", "_law_grains_here"]) : Cal P w K mg base 1 "_law_room" ["_law_sorts_here", "_law_pair", "_law_grains_here"] sp__law_room := by
  refine cal_of D sc__law_room len3 fun f cdv A outer s H vs Q E hr h => ?_
  obtain ⟨_, _, _, rfl, ss, j, ⟨ps, us, rfl, hs, pr⟩, ⟨pj, rfl, hj⟩, rfl, okS, okj, q⟩ := h
  obtain ⟨s1, s2, s3⟩ := join_sorts okS okj
  have gok := gP_ok okS okj
  have jj := okj
  obtain ⟨j1, j2, j3, j4⟩ := okj
  refine ⟨_, (pss_cons (ps_set (i := 3) sc__law_room.nd rfl (.inl rfl) pe_int)
    (pss_cons (ps_for PassesOwn.never rfl (pi_tup (pv 1)) (pg_name (i := 4) sc__law_room.nd rfl (.inl rfl))
    (pss_cons (ps_asg (pe_ix ix_tup (pv 0) (pv 4) (fun _ _ => rfl)) (pg_tup rfl (pgs_cons (pg_name (i := 5) sc__law_room.nd rfl (.inl rfl)) (pgs_cons (pg_name (i := 6) sc__law_room.nd rfl (.inl rfl)) pgs_nil))))
    (pss_one (ps_if (pt_cmpR op_gt (pv 5) pe_int (nomark _))
    (pss_one (ps_set (i := 3) sc__law_room.nd rfl (.inl rfl) (pe_op op_add (pv 3) (pe_op op_mul (pv 6) (pe_op op_fdiv (pv 2) (pv 5))))))
    pss_nil))))
    (pss_one (ps_ret (pv 3))))), ?_⟩
  refine ⟨_, rfl, pj, rfl, ⟨_, SqT.of hj⟩, for_tup (fun i σ H1 => H1 = H ∧ ∃ y4 y5 y6, σ = [some (.ref ps), some (.ref pj), some (.int (gP ss j)), some (.int (prm ss j i)), y4, y5, y6]) ⟨rfl, none, none, none, rfl⟩ (fun i σ H1 _ z => by rw [z.1]; exact SqT.of hj) (fun i v σ H1 hv z => ?_) (fun σ H1 z => ?_)⟩
  · obtain ⟨rfl, y4, y5, y6, rfl⟩ := z
    have hq : ∃ n : Int, v = .int n ∧ 0 ≤ n ∧ n < (ss.length : Int) ∧ SortOk (sAt ss n) ∧ prm ss j (i + 1) = prm ss j i + rm1 (sAt ss n) (gP ss j) := by
      match i, hv with
      | 0, hv =>
        cases hv
        exact ⟨j.1, rfl, j1, by omega, s1, (Int.zero_add _).symm⟩
      | 1, hv =>
        cases hv
        exact ⟨j.2, rfl, by omega, j3, s2, rfl⟩
    obtain ⟨n, rfl, n1, n2, okn, en⟩ := hq
    obtain ⟨_, g1, t1, rfl, r1⟩ := pr_get' pr (sAt_get n1 n2)
    have a1 : atI us n = some (.ref t1) := at_of (j := n.toNat) (by omega) g1
    have wd := Wd_le okn.1
    have cp := okn.2
    refine ⟨_, rfl, _, rfl, ps, _, _, _, rfl, rfl, SqT.of hs, a1, t1, _, rfl, SqT.of r1, rfl, _, _, rfl, _, _, rfl, rfl, ?_⟩
    refine ⟨_, rfl, _, _, rfl, rfl, _, rfl, ?_⟩
    by_cases h0 : 0 < (sAt ss n).1
    · refine iteD h0 ⟨_, rfl, _, rfl, _, rfl, _, rfl, _, _, rfl, rfl, ⟨h0, by omega⟩, _, _, rfl, rfl, .inl ⟨by omega, by omega⟩, _, _, rfl, rfl, rfl, some (.int n), some (.int (sAt ss n).1), some (.int (sAt ss n).2), ?_⟩
      rw [en, show rm1 (sAt ss n) (gP ss j) = (sAt ss n).2 * (gP ss j / (sAt ss n).1) from if_pos h0]
      rfl
    · refine iteND h0 ⟨rfl, some (.int n), some (.int (sAt ss n).1), some (.int (sAt ss n).2), ?_⟩
      rw [en, show rm1 (sAt ss n) (gP ss j) = 0 from if_neg h0, Int.add_zero]
      rfl
  · obtain ⟨rfl, y4, y5, y6, rfl⟩ := z
    exact ⟨_, rfl, q⟩
theorem sc__law_raised : FnScope ["_law_steps", "_law_grains_here", "_law_step"] ["_law_steps", "_law_grains_here"] (defScope s__law_raised) := ⟨rfl, rfl, rfl, by decide +kernel, rfl, by decide +kernel, by decide +kernel⟩
def sp__law_raised : Sp := Sp2 fun a b H Q => ∃ (l : List Fr) (g : Int), LsV H a l ∧ b = .int g ∧ (∀ q ∈ l, FrOk q) ∧ l.length ≤ 6 ∧ 1 ≤ g ∧ g ≤ 60 ∧ ∀ H' L, Same H H' → H L = none → H' L = some (.lst ((l.map (upL g)).map V.int)) → Q (.ref L) H'
theorem ok__law_raised (T : Blt mg) (D : DefAt K mg "_law_raised" s__law_raised ["_law_steps", "_law_grains_here"]) : Cal P w K mg base 1 "_law_raised" ["_law_steps", "_law_grains_here"] sp__law_raised := by
  refine cal_of D sc__law_raised len2 fun f cdv A outer s H vs Q E hr h => ?_
  obtain ⟨_, _, rfl, l, g, ⟨p, us, rfl, hp, hl⟩, rfl, l3, l2, g1, g2, q⟩ := h
  have len := pr_len hl
  refine ⟨_, (pss_one (ps_ret (pe_lc (own := [("_law_step", 2)]) (g := (gName 2)) (tt := tYes) rfl sc__law_raised.nd (pi_tup (pv 0)) (blkOk_by (own := [("_law_step", 2)]) (N := ["_law_steps", "_law_grains_here", "_law_step"]) (sc := defScope s__law_raised) (by decide +kernel)) (fun _ _ _ _ _ => (pg_name (i := 2) sc__law_raised.nd rfl (.inl rfl))) (fun _ _ _ _ _ => pts_nil) (fun _ _ _ _ _ => (pe_op op_sub pe_int (pe_op op_fdiv (pe_op op_sub pe_int (pe_op op_mul (pe_ix (show IxR _ (rIxT K) from ix_tup) (pv 2) pe_int (fun _ _ => rfl)) (pv 1))) (pe_ix (show IxR _ (rIxT K) from ix_tup) (pv 2) pe_int (fun _ _ => rfl)))))))), ?_⟩
  refine ⟨_, rfl, p, rfl, ⟨_, SqT.of hp⟩, lcT hp (by omega) (fun _ y i => ∃ z, l[i]? = some z ∧ y = .int (upL g z)) (fun _ _ _ _ _ z => z) (fun _ => rfl) (fun i x H' hx e Q' k => ?_) (fun L ys H' hL e h1 h2 h3 => ?_)⟩
  · obtain ⟨⟨z1, z2⟩, hz, rz⟩ := pr_get hl hx
    have ok := l3 _ (List.mem_of_getElem? hz)
    obtain ⟨t, rfl, ht⟩ := rz.up (sts e)
    have o3 : (1 : Int) ≤ z2 := ok.2.2.1
    have o4 : z2 ≤ 144 := ok.2.2.2.1
    exact ⟨_, rfl, t, _, _, _, rfl, rfl, SqT.of ht, atI_nat (j := 0) rfl, _, rfl, _, _, rfl, rfl, .inr ⟨by omega, by omega⟩, _, _, rfl, rfl, _, rfl, t, _, _, _, rfl, rfl, SqT.of ht, atI_nat (j := 1) rfl, _, _, rfl, rfl, ⟨by omega, by omega⟩, _, _, rfl, rfl, k _ _ (Same.refl _) ⟨_, hz, rfl⟩⟩
  · rw [vals_ext (f := fun z => V.int (upL g z)) (by omega) h3] at h1
    refine q _ L e hL ?_
    rw [h1, List.map_map]
    rfl
theorem sc__law_is_fraction : FnScope ["_law_thing"] ["_law_thing"] (defScope s__law_is_fraction) := ⟨rfl, rfl, rfl, by decide +kernel, rfl, by decide +kernel, by decide +kernel⟩
def sp__law_is_fraction : Sp := Sp1 fun a H Q => ∃ x : Fr, FrV H a x ∧ 1 ≤ x.2 ∧ x.2 ≤ 1000000 ∧ Int.gcd x.1 x.2 = 1 ∧ ∀ H', Same H H' → Q (.bl true) H'
theorem ok__law_is_fraction (T : Blt mg) (D : DefAt K mg "_law_is_fraction" s__law_is_fraction ["_law_thing"]) (c__law_is_int : Cal P w K mg base 1 "_law_is_int" ["_law_thing"] sp__law_is_int) (c__law_lowest : Cal P w K mg base 2 "_law_lowest" ["_law_top", "_law_bottom"] sp__law_lowest) : Cal P w K mg base 3 "_law_is_fraction" ["_law_thing"] sp__law_is_fraction := by
  refine cal_of D sc__law_is_fraction len1 fun f cdv A outer s H vs Q E hr h => ?_
  obtain ⟨_, rfl, ⟨x1, x2⟩, ⟨p, rfl, hp⟩, h1, h2, h3, q⟩ := h
  refine ⟨_, (pss_cons (ps_if (PW.pt (pw_or (pt_not (pt_val (pe_callB call_isi (by rfl) T.b_isinstance (by decide +kernel) (pa_cons (pv 0) (pa_cons (pe_bltn (v := .ty "tuple") (by rfl) T.b_tuple (by decide +kernel) rfl) pa_nil))))) (pw_or1 (pt_cmpR op_ne (pe_callB call_len_seq (by rfl) T.b_len (by decide +kernel) (pa_cons (pv 0) pa_nil)) pe_int (nomark _)))))
    (pss_one (ps_ret pe_bl))
    pss_nil)
    (pss_cons (ps_if (PW.pt (pw_or (pt_not (pt_val (pe_cal c__law_is_int hr (by decide) (by rfl) (pa_cons (pe_ix ix_tup (pv 0) pe_int (fun _ _ => rfl)) pa_nil)))) (pw_or1 (pt_not (pt_val (pe_cal c__law_is_int hr (by decide) (by rfl) (pa_cons (pe_ix ix_tup (pv 0) pe_int (fun _ _ => rfl)) pa_nil)))))))
    (pss_one (ps_ret pe_bl))
    pss_nil)
    (pss_one (ps_ret (pe_and (pe_cmpR op_gt (pe_ix ix_tup (pv 0) pe_int (fun _ _ => rfl)) pe_int (nomark _)) (pe_one (pe_cmpR (op_eqD hr.units) (pe_cal c__law_lowest hr (by decide) (by rfl) (pa_cons (pe_ix ix_tup (pv 0) pe_int (fun _ _ => rfl)) (pa_cons (pe_ix ix_tup (pv 0) pe_int (fun _ _ => rfl)) pa_nil))) (pv 0) (nomark _)))))))), ?_⟩
  refine ⟨_, rfl, _, _, _, _, true, rfl, .ty "tuple", .base (.tup hp), kit_ty (by decide +kernel), true, rfl, iteF ?_⟩
  refine ⟨_, rfl, p, _, rfl, .inr (SqT.of hp), rfl, _, rfl, iteNB (decide_eq_true rfl) ?_⟩
  refine ⟨_, rfl, p, _, _, _, rfl, rfl, SqT.of hp, atI_nat (j := 0) rfl, _, rfl, x1, rfl, true, rfl, iteF ?_⟩
  refine ⟨_, rfl, p, _, _, _, rfl, rfl, SqT.of hp, atI_nat (j := 1) rfl, _, rfl, x2, rfl, true, rfl, iteF ?_⟩
  refine ⟨_, rfl, p, _, _, _, rfl, rfl, SqT.of hp, atI_nat (j := 1) rfl, _, _, rfl, rfl, _, rfl, iteD (show (0 : Int) < x2 by have : (1 : Int) ≤ x2 := h1; omega) ?_⟩
  refine ⟨_, rfl, p, _, _, _, rfl, rfl, SqT.of hp, atI_nat (j := 0) rfl, _, rfl, p, _, _, _, rfl, rfl, SqT.of hp, atI_nat (j := 1) rfl, _, _, rfl, x1, x2, rfl, rfl, h1, by have : x2 ≤ 1000000 := h2; omega, fun H' v e hv => ?_⟩
  refine ⟨_, rfl, fd (lowI x1 x2), fd (x1, x2), fd_dp hv, fd_dp ⟨p, rfl, e _ _ hp⟩, fd_shaped _, fd_shaped _, qb (q _ e) ?_⟩
  rw [fd_eqv]
  exact decide_eq_true (low_id (q := (x1, x2)) h3)
end
end K30
set_option Elab.async false
set_option linter.all false
set_option maxRecDepth 100000
set_option maxHeartbeats 4000000
namespace K30
open PySem PySem.Spec PyProof.Rows L2
section
variable {P : Program} {w : World} {K : PySem.W.Frag} {mg : Str → Option Value} {base : Heap}
theorem sc__law_is_calm : FnScope ["_law_sorts_here", "_law_kinds", "_law_steps", "_law_joins", "_law_pair", "_law_grains_here", "_law_room_here", "_law_raised_here", "_law_place"] ["_law_sorts_here", "_law_kinds"] (defScope s__law_is_calm) := ⟨rfl, rfl, rfl, by decide +kernel, rfl, by decide +kernel, by decide +kernel⟩
def sp__law_is_calm : Sp := Sp2 fun a b H Q => ∃ (ss : List Fr) (ks : List Kd), LsV H a ss ∧ KsV H b ks ∧ SortsOk ss ∧ KindsOk ss ks ∧ ∀ H' c, Same H H' → (c = true ↔ CalmP ss ks) → Q (.bl c) H'
theorem ok__law_is_calm (T : Blt mg) (D : DefAt K mg "_law_is_calm" s__law_is_calm ["_law_sorts_here", "_law_kinds"]) (c__law_pair_grains : Cal P w K mg base 3 "_law_pair_grains" ["_law_sorts_here", "_law_pair"] sp__law_pair_grains)
    (c__law_room : Cal P w K mg base 1 "_law_room" ["_law_sorts_here", "_law_pair", "_law_grains_here"] sp__law_room) (c__law_raised : Cal P w K mg base 1 "_law_raised" ["_law_steps", "_law_grains_here"] sp__law_raised) : Cal P w K mg base 4 "_law_is_calm" ["_law_sorts_here", "_law_kinds"] sp__law_is_calm := by
  refine cal_of D sc__law_is_calm len2 fun f cdv A outer s H vs Q E hr h => ?_
  obtain ⟨va, _, rfl, ss, ks, hs, ⟨pk, uk, rfl, hk, prk⟩, okS, okK, q⟩ := h
  refine ⟨_, (pss_cons (ps_for PassesOwn.never rfl (pi_tup (pv 1)) (pg_tup rfl (pgs_cons (pg_name (i := 2) sc__law_is_calm.nd rfl (.inl rfl)) (pgs_cons (pg_name (i := 3) sc__law_is_calm.nd rfl (.inl rfl)) pgs_nil)))
    (pss_one (ps_for PassesOwn.never rfl (pi_tup (pv 3)) (pg_name (i := 4) sc__law_is_calm.nd rfl (.inl rfl))
    (pss_cons (ps_set (i := 5) sc__law_is_calm.nd rfl (.inl rfl) (pe_cal c__law_pair_grains hr (by decide) (by rfl) (pa_cons (pv 0) (pa_cons (pv 4) pa_nil))))
    (pss_cons (ps_set (i := 6) sc__law_is_calm.nd rfl (.inl rfl) (pe_cal c__law_room hr (by decide) (by rfl) (pa_cons (pv 0) (pa_cons (pv 4) (pa_cons (pv 5) pa_nil)))))
    (pss_cons (ps_set (i := 7) sc__law_is_calm.nd rfl (.inl rfl) (pe_cal c__law_raised hr (by decide) (by rfl) (pa_cons (pv 2) (pa_cons (pv 5) pa_nil))))
    (pss_one (ps_for PassesOwn.never rfl (pi_range1 (by rfl) T.b_range (pa_cons (pe_callB call_len_seq (by rfl) T.b_len (by decide +kernel) (pa_cons (pv 7) pa_nil)) pa_nil)) (pg_name (i := 8) sc__law_is_calm.nd rfl (.inl rfl))
    (pss_one (ps_if (pt_cmpR op_le (pe_op op_mul pe_int (pe_ix ix_list (pv 7) (pv 8) (fun _ _ => rfl))) (pe_op op_mul (pe_op op_add (pv 8) pe_int) (pv 6)) (nomark _))
    (pss_one (ps_ret pe_bl))
    pss_nil))))))))))
    (pss_one (ps_ret pe_bl))), ?_⟩
  refine ⟨_, rfl, pk, rfl, ⟨_, SqT.of hk⟩, for_tup (xs := uk) (fun i σ H1 => Same H H1 ∧ (∀ k ∈ ks.take i, ∀ j ∈ k.2, CalmU (k.1.map (upL (gP ss j))) (rP ss j)) ∧ ∃ y2 y3 y4 y5 y6 y7 y8, σ = [some va, some (.ref pk), y2, y3, y4, y5, y6, y7, y8]) ⟨Same.refl _, fun k z => by simp at z, none, none, none, none, none, none, none, rfl⟩ (fun i σ H1 _ z => SqT.of (z.1 _ _ hk)) (fun i x σ H1 hx z => ?_) (fun σ H1 z => ?_)⟩
  · obtain ⟨z1, z2, y2, y3, y4, y5, y6, y7, y8, rfl⟩ := z
    obtain ⟨⟨l, js⟩, gk, rk⟩ := pr_get prk hx
    obtain ⟨tk, u1, u2, rfl, htk, hl2, ⟨pj, uj, rfl, hj2, prj⟩⟩ := rk.up (sts z1)
    have okk := okK.2 _ (List.mem_of_getElem? gk)
    have jlen : uj.length = js.length := pr_len prj
    refine ⟨tk, _, rfl, SqT.of htk, rfl, _, _, rfl, _, _, rfl, rfl, ?_⟩
    refine ⟨_, rfl, pj, rfl, ⟨_, SqT.of hj2⟩, for_tup (fun m σ H3 => Same H1 H3 ∧ (∀ j ∈ js.take m, CalmU (l.map (upL (gP ss j))) (rP ss j)) ∧ ∃ y4 y5 y6 y7 y8, σ = [some va, some (.ref pk), some u1, some (.ref pj), y4, y5, y6, y7, y8]) ⟨Same.refl _, fun k z => by simp at z, _, _, _, _, _, rfl⟩ (fun m σ H3 _ z => SqT.of (z.1 _ _ hj2)) (fun m v σ H3 hv z => ?_) (fun σ H3 z => ?_)⟩
    · obtain ⟨z3, z4, y4, y5, y6, y7, y8, rfl⟩ := z
      obtain ⟨j, gj, rj⟩ := pr_get prj hv
      have okj := okk.2.2.2.1 j (List.mem_of_getElem? gj)
      have gok := gP_ok okS okj
      have rok := rP_le okS okj
      have e3 := z1.trans z3
      have hs3 := lsUp (sts e3) hs
      have rj3 := rj.up (sts z3)
      refine ⟨_, rfl, _, rfl, _, _, rfl, ss, j, hs3, rj3, okS, okj, ?_⟩
      refine ⟨_, rfl, _, rfl, _, rfl, _, _, _, rfl, ss, j, hs3, rj3, rfl, okS, okj, ?_⟩
      refine ⟨_, rfl, _, rfl, _, _, rfl, l, gP ss j, lsUp (sts z3) hl2, rfl, okk.1.2.2.1, okk.1.2.1, gok.1, gok.2, fun H4 L e4 _ hL => ?_⟩
      have l6 : l.length ≤ 6 := okk.1.2.1
      have upos : ∀ u ∈ l.map (upL (gP ss j)), 1 ≤ u ∧ u ≤ 60000000 := fun u h => units_pos gok.1 gok.2 okk.1.2.2.1 h
      have ulen : (l.map (upL (gP ss j))).length ≤ 6 := by rw [List.length_map]; exact l6
      generalize hus : l.map (upL (gP ss j)) = us at hL upos ulen
      refine ⟨_, rfl, L, _, rfl, .inl (SqL.of hL), _, rfl, by omega, by rw [List.length_map]; omega, ?_⟩
      rw [List.length_map]
      refine for_range (fun n σ H5 => H5 = H4 ∧ (∀ (p : Nat) (h : p < us.length), p < n → ((p : Int) + 1) * rP ss j < 2 * us[p]) ∧ ∃ y8, σ = [some va, some (.ref pk), some u1, some (.ref pj), some v, some (.int (gP ss j)), some (.int (rP ss j)), some (.ref L), y8]) ⟨rfl, fun p _ z => absurd z (Nat.not_lt_zero _), _, rfl⟩ (fun n σ H5 hn z => ?_) (fun σ H5 z => ?_)
      · obtain ⟨rfl, w1, y8, rfl⟩ := z
        have hn' : n < us.length := by omega
        have gn : (us.map V.int)[n]? = some (.int us[n]) := by
          rw [List.getElem?_map, List.getElem?_eq_getElem hn']
          rfl
        have up := upos us[n] (List.getElem_mem hn')
        refine ⟨_, rfl, _, rfl, L, _, _, _, rfl, rfl, SqL.of hL, at_of (j := n) (by omega) gn, _, _, rfl, rfl, .inl ⟨by omega, by omega⟩, _, rfl, _, _, rfl, rfl, _, rfl, _, _, rfl, rfl, .inl ⟨by omega, by omega⟩, _, _, rfl, rfl, _, rfl, ?_⟩
        rw [Int.zero_add]
        by_cases hb : 2 * us[n] ≤ ((n : Int) + 1) * rP ss j
        · refine iteD hb (q _ _ (e3.trans e4) ⟨(fun z => by cases z), fun hC => ?_⟩)
          have h0 := hC _ (List.mem_of_getElem? gk) j (List.mem_of_getElem? gj)
          have h1 : CalmU us (rP ss j) := by
            rw [← hus]
            exact h0
          have := h1 n hn'
          omega
        · refine iteND hb ⟨rfl, fun p hp hpn => ?_, _, rfl⟩
          by_cases hc : p < n
          · exact w1 p hp hc
          · have ep : p = n := by omega
            subst ep
            omega
      · obtain ⟨rfl, w1, y8, rfl⟩ := z
        refine ⟨z3.trans e4, fun j' hj' => ?_, _, _, _, _, _, rfl⟩
        rcases take_mem hj' with hj' | hj'
        · exact z4 j' hj'
        · cases gj.symm.trans hj'
          rw [hus]
          exact fun p hp => w1 p hp (by omega)
    · obtain ⟨z3, z4, y4, y5, y6, y7, y8, rfl⟩ := z
      refine ⟨z1.trans z3, fun k hk' j hj' => ?_, _, _, _, _, _, _, _, rfl⟩
      rcases take_mem hk' with hk' | hk'
      · exact z2 k hk' j hj'
      · cases gk.symm.trans hk'
        refine z4 j ?_
        rw [jlen, List.take_length]
        exact hj'
  · obtain ⟨z1, z2, y2, y3, y4, y5, y6, y7, y8, rfl⟩ := z
    refine q _ true z1 ⟨fun _ k hk' => z2 k ?_, fun _ => rfl⟩
    rw [pr_len prk, List.take_length]
    exact hk'
theorem u65 {k : Nat} {A : Around} (r : Room k A) : A.units + 65 < cLine := by
  have := r.un
  omega
section
variable {X : Cx} {k k' : Nat} {C : Addr} {e : Expr} {es : List Expr} {t : TA} {p pos : Pos}
theorem pe_calB (c : CalB X.prog X.w X.K X.mg X.base k C) (hr : Room k' X.A) (hk : k + 1 ≤ k') (hg : Gl X "Book") (ha : PA X (e :: es) t)
    (hs : starEach (e :: es) X.env = (false, eval e X.env) :: starEach es X.env := by rfl) (hpl : (backTo pos (starEach es X.env)).any (·.1) = false := by rfl) :
    PE X (.Call (.Name "Book" p) (e :: es) [] pos) (tMake C (sp_book_init C) [] E0 t) := by
  obtain ⟨f, fd, M, F, g, b⟩ := c
  exact pe_make M F (hr.mono hk) hg g b .nil pass0 ha (by decide) hs hpl
end
theorem sc__law_is_right : FnScope ["_law_sorts_here", "_law_kinds", "_law_book", "_law_due", "_law_told", "_law_least", "_law_grains_here", "_law_raised_here", "_law_number"] ["_law_sorts_here", "_law_kinds"] (defScope s__law_is_right) := ⟨rfl, rfl, rfl, by decide +kernel, rfl, by decide +kernel, by decide +kernel⟩
def sp__law_is_right : Sp := Sp2 fun a b H Q => ∃ (ss : List Fr) (ks : List Kd), LsV H a ss ∧ KsV H b ks ∧ SortsOk ss ∧ KindsOk ss ks ∧ ∀ H', Same H H' → Q (.bl true) H'
theorem ok__law_is_right {C : Addr} (T : Blt mg) (D : DefAt K mg "_law_is_right" s__law_is_right ["_law_sorts_here", "_law_kinds"]) (c_Book : CalB P w K mg base 6 C) (c__law_is_calm : Cal P w K mg base 4 "_law_is_calm" ["_law_sorts_here", "_law_kinds"] sp__law_is_calm)
    (c_breach : Cal P w K mg base 6 "breach" ["book"] (sp_breach C)) (c_calm : Cal P w K mg base 7 "calm" ["book"] (sp_calm C)) (c_loss : Cal P w K mg base 8 "loss" ["book"] (sp_loss C)) (c__law_flag : Cal P w K mg base 1 "_law_flag" ["_law_told", "_law_due"] sp__law_flag)
    (c__law_is_fraction : Cal P w K mg base 3 "_law_is_fraction" ["_law_thing"] sp__law_is_fraction) (c__law_pair_grains : Cal P w K mg base 3 "_law_pair_grains" ["_law_sorts_here", "_law_pair"] sp__law_pair_grains) (c__law_raised : Cal P w K mg base 1 "_law_raised" ["_law_steps", "_law_grains_here"] sp__law_raised)
    (c__law_lowest : Cal P w K mg base 2 "_law_lowest" ["_law_top", "_law_bottom"] sp__law_lowest) : Cal P w K mg base 9 "_law_is_right" ["_law_sorts_here", "_law_kinds"] sp__law_is_right := by
  refine cal_of D sc__law_is_right len2 fun f cdv A outer s H vs Q E hr h => ?_
  obtain ⟨va, vb, rfl, ss, ks, hs, hk, okS, okK, q⟩ := h
  refine ⟨_, (pss_cons (ps_set (i := 2) sc__law_is_right.nd rfl (.inl rfl) (pe_calB c_Book hr (by decide) (by rfl) (pa_cons (pv 0) (pa_cons (pv 1) pa_nil))))
    (pss_cons (ps_set (i := 3) sc__law_is_right.nd rfl (.inl rfl) (pe_cal c__law_is_calm hr (by decide) (by rfl) (pa_cons (pv 0) (pa_cons (pv 1) pa_nil))))
    (pss_cons (ps_set (i := 4) sc__law_is_right.nd rfl (.inl rfl) (pe_cal c_breach hr (by decide) (by rfl) (pa_cons (pv 2) pa_nil)))
    (pss_cons (ps_if (PW.pt (pw_or (pt_not (pt_val (pe_cal c__law_flag hr (by decide) (by rfl) (pa_cons (pe_cal c_calm hr (by decide) (by rfl) (pa_cons (pv 2) pa_nil)) (pa_cons (pv 3) pa_nil))))) (pw_or1 (pt_cmpR op_ne (pe_cmpR op_isN (pv 4) pe_non (nomark _)) (pv 3) (nomark _)))))
    (pss_one (ps_ret pe_bl))
    pss_nil)
    (pss_cons (ps_if (pt_val (pv 3))
    (pss_cons (ps_set (i := 5) sc__law_is_right.nd rfl (.inl rfl) (pe_cal c_loss hr (by decide) (by rfl) (pa_cons (pv 2) pa_nil)))
    (pss_cons (ps_if (pt_cmpR op_eq (pe_callB call_len_seq (by rfl) T.b_len (by decide +kernel) (pa_cons (pv 1) pa_nil)) pe_int (nomark _))
    (pss_one (ps_ret (pe_cmpR op_isN (pv 5) pe_non (nomark _))))
    pss_nil)
    (pss_one (ps_ret (pe_and (pe_cal c__law_is_fraction hr (by decide) (by rfl) (pa_cons (pv 5) pa_nil)) (pe_one (pe_cmpR op_gt (pe_ix ix_tup (pv 5) pe_int (fun _ _ => rfl)) pe_int (nomark _))))))))
    pss_nil)
    (pss_cons (ps_set (i := 6) sc__law_is_right.nd rfl (.inr rfl) (pe_cal c__law_pair_grains hr (by decide) (by rfl) (pa_cons (pv 0) (pa_cons (pe_ix ix_tup (pv 4) pe_int (fun _ _ => rfl)) pa_nil))))
    (pss_cons (ps_set (i := 7) sc__law_is_right.nd rfl (.inl rfl) (pe_cal c__law_raised hr (by decide) (by rfl) (pa_cons (pe_ix ix_tup (pe_ix ix_tup (pv 1) (pe_ix ix_tup (pv 4) pe_int (fun _ _ => rfl)) (fun _ _ => rfl)) pe_int (fun _ _ => rfl)) (pa_cons (pv 6) pa_nil))))
    (pss_one (ps_ret (pe_cmpR (op_inD (u65 hr)) (pe_ix ix_tup (pv 4) pe_int (fun _ _ => rfl)) (pe_lc (own := [("_law_number", 8)]) (g := (gName 8)) (tt := tYes) rfl sc__law_is_right.nd (pi_list (pv 7)) (blkOk_by (own := [("_law_number", 8)]) (N := ["_law_sorts_here", "_law_kinds", "_law_book", "_law_due", "_law_told", "_law_least", "_law_grains_here", "_law_raised_here", "_law_number"]) (sc := defScope s__law_is_right) (by decide +kernel)) (fun _ _ _ _ _ => (pg_name (i := 8) sc__law_is_right.nd rfl (.inl rfl))) (fun _ _ _ _ _ => pts_nil) (fun _ _ _ _ _ => (pe_cal c__law_lowest hr (by decide) (by rfl) (pa_cons (pv 8) (pa_cons (pv 6) pa_nil))))) (by rfl))))))))))), ?_⟩
  refine ⟨_, rfl, _, rfl, fun x dx nx ndx nex => ?_⟩
  have s0 : Same H (upd (upd H dx (.own x)) x (.ins C dx [])) := fun b o e => by
    rw [upd_ne (ne_of_none e nx), upd_ne (ne_of_none e ndx)]
    exact e
  refine ⟨_, _, _, rfl, x, dx, ss, ks, rfl, upd_same, lsUp (sts s0) hs, ksUp (sts s0) hk, okS, okK, fun H1 hkeep hx => ⟨rfl, ?_⟩⟩
  have e1 : Same H H1 := fun b o e => hkeep b o (ne_of_none e nx) (s0 b o e)
  have hb1 : BkV C H1 (.ref x) ss ks := ⟨x, dx, va, vb, rfl, hx, lsUp (sts e1) hs, ksUp (sts e1) hk⟩
  refine ⟨_, rfl, _, rfl, _, _, rfl, ss, ks, lsUp (sts e1) hs, ksUp (sts e1) hk, okS, okK, fun H2 due e2 hdue => ?_⟩
  refine ⟨_, rfl, _, rfl, ss, ks, hb1.up e2, okS, okK, fun H3 v e3 hv => ?_⟩
  refine ⟨_, rfl, _, rfl, ss, ks, hb1.up (e2.trans e3), okS, okK, fun H4 b e4 hb => ?_⟩
  have e14 := (e2.trans e3).trans e4
  have e04 := e1.trans e14
  have ebd : b = due := by
    rw [Bool.eq_iff_iff, hb, hdue]
  refine ⟨_, rfl, _, _, rfl, b, due, rfl, rfl, _, rfl, iteNB (decide_eq_true (by rw [ebd])) ?_⟩
  refine ⟨_, rfl, rfl, _, rfl, rfl, _, rfl, iteNB ?_ ?_⟩
  · refine decide_eq_true (congrArg V.bl ?_)
    rw [Bool.eq_iff_iff, hdue]
    rcases hv with ⟨rfl, z⟩ | ⟨⟨t, _, _, _, _, _, _, rfl, _⟩, z⟩
    · simp [z]
    · simp [z]
  refine ⟨_, rfl, due, rfl, ?_⟩
  rcases hv with ⟨rfl, hC⟩ | ⟨hBr, hC⟩
  · -- calm
    obtain rfl : due = true := hdue.mpr hC
    refine iteT ?_
    refine ⟨_, rfl, _, rfl, ss, ks, hb1.up e14, okS, okK, hC, fun H5 v5 e5 z => ?_⟩
    obtain ⟨pk, uk, rfl, hpk, prk⟩ := ksUp (sts (e04.trans e5)) hk
    refine ⟨_, rfl, pk, _, rfl, .inr (SqT.of hpk), rfl, _, rfl, ?_⟩
    rcases z with ⟨hn, rfl⟩ | ⟨hn, x5, hx5, okx⟩
    · have : uk = [] := (pr_ne prk).mpr hn
      subst this
      refine iteD rfl ?_
      exact ⟨_, rfl, rfl, q _ (e04.trans e5)⟩
    · have hne : uk ≠ [] := fun z => hn ((pr_ne prk).mp z)
      have hlen : 1 ≤ uk.length := List.length_pos_iff.mpr hne
      refine iteND (fun z => by have := V.int.inj z; omega) ?_
      obtain ⟨o1, o2, o3, o4⟩ := okx
      refine ⟨_, rfl, _, rfl, x5, hx5, o2, by omega, o4, fun H6 e6 => ⟨true, rfl, iteT ?_⟩⟩
      obtain ⟨p5, rfl, hp5⟩ := hx5.up (sts e6)
      exact ⟨_, rfl, p5, _, _, _, rfl, rfl, SqT.of hp5, atI_nat (j := 0) rfl, _, _, rfl, rfl, qb (q _ ((e04.trans e5).trans e6)) (decide_eq_true (by omega))⟩
  · -- a breach
    obtain rfl : due = false := by
      cases due with
      | false => rfl
      | true => exact absurd (hdue.mp rfl) hC
    refine iteF ?_
    obtain ⟨t, n, v2, v3, ⟨l, js⟩, j, u, rfl, ht, gk, hj, r2, hu, r3⟩ := hBr
    have ht4 := e4 _ _ ht
    have okk := okK.2 _ (List.mem_of_getElem? gk)
    have okj := okk.2.2.2.1 j hj
    have gok := gP_ok okS okj
    refine ⟨_, rfl, _, rfl, t, _, _, _, rfl, rfl, SqT.of ht4, atI_nat (j := 1) rfl, _, _, rfl, ss, j, lsUp (sts e04) hs, r2.up (sts e4), okS, okj, ?_⟩
    obtain ⟨pk, uk, rfl, hpk, prk⟩ := ksUp (sts e04) hk
    obtain ⟨_, gn, tk, u1, u2, rfl, htk, hl, hjs⟩ := pr_get' prk gk
    refine ⟨_, rfl, _, rfl, t, _, _, _, rfl, rfl, SqT.of ht4, atI_nat (j := 0) rfl, pk, _, _, _, rfl, rfl, SqT.of hpk, atI_nat (j := n) gn, tk, _, _, _, rfl, rfl, SqT.of htk, atI_nat (j := 0) rfl, _, rfl, _, _, rfl, l, gP ss j, hl, rfl, okk.1.2.2.1, okk.1.2.1, gok.1, gok.2, fun H5 L e5 _ hL => ?_⟩
    have l6 : l.length ≤ 6 := okk.1.2.1
    refine ⟨_, rfl, t, _, _, _, rfl, rfl, SqT.of (e5 _ _ ht4), atI_nat (j := 2) rfl, _, rfl, L, rfl, ⟨_, SqL.of hL⟩, lcL hL (by rw [List.length_map, List.length_map]; omega) (fun H y n => ∃ z, (l.map (upL (gP ss j)))[n]? = some z ∧ FrV H y (lowI z (gP ss j))) (fun H H' y n e ⟨z, c1, c2⟩ => ⟨z, c1, c2.up e⟩) (fun _ => rfl) (fun n x H7 hx e7 Q' k => ?_) (fun M2 zs H7 hM2 e7 h1 h2 h3 => ?_)⟩
    · rw [List.getElem?_map] at hx
      cases hui : (l.map (upL (gP ss j)))[n]? with
      | none =>
        rw [hui] at hx
        cases hx
      | some z =>
        rw [hui] at hx
        cases hx
        exact ⟨_, rfl, _, rfl, _, _, rfl, z, gP ss j, rfl, rfl, gok.1, by omega, fun H8 v e8 hv => k _ _ e8 ⟨z, hui, hv⟩⟩
    · have prz : Paired (FrV H7) zs ((l.map (upL (gP ss j))).map fun z => lowI z (gP ss j)) := by
        refine pr_ext (by simp [h2]) fun n y hn => ?_
        obtain ⟨z, c1, c2⟩ := h3 n y hn
        exact ⟨_, by rw [List.getElem?_map, c1]; rfl, c2⟩
      have e47 := (e4.trans e5).trans e7
      refine ⟨fd (lowI u (gP ss j)), _, fd_dp (r3.up (sts e47)), .lst (SqL.of h1) (fds_dp prz), fd_shaped _, fds_shapedL _, qb (q _ ((e04.trans e5).trans e7)) ?_⟩
      rw [List.any_eq_true]
      refine ⟨fd (lowI u (gP ss j)), List.mem_map_of_mem (List.mem_map_of_mem (f := fun z => lowI z (gP ss j)) hu), ?_⟩
      rw [fd_eqv]
      exact decide_eq_true rfl
end
end K30
set_option Elab.async false
set_option linter.all false
set_option maxRecDepth 100000
set_option maxHeartbeats 4000000
namespace K30
open PySem PySem.Spec PyProof.Rows L2
section
variable {P : Program} {w : World} {K : PySem.W.Frag} {mg : Str → Option Value} {base : Heap}
theorem sc__law_ascending : FnScope ["_law_steps", "_law_left", "_law_found", "_law_least", "_law_step"] ["_law_steps"] (defScope s__law_ascending) := ⟨rfl, rfl, rfl, by decide +kernel, rfl, by decide +kernel, by decide +kernel⟩
def sp__law_ascending : Sp := Sp1 fun a H Q => ∃ (t : Addr) (vs0 : List V) (q0 : List Fr), a = .ref t ∧ (H t = some (.lst vs0) ∨ H t = some (.tup vs0)) ∧ Paired (FrV H) vs0 q0 ∧ q0.length ≤ 6 ∧ (∀ q ∈ q0, FrOk q) ∧
  ∀ H' v l, Same H H' → LsV H' v l → l.Perm q0 → l.Pairwise frLe → Q v H'
structure WAsc (H : Hp) (q0 : List Fr) (a : V) (L M : Addr) (m : Nat) (σ : L2.St) (H' : Hp) : Prop where
  ex : ∃ ys zs ql qf y3 y4, σ = [some a, some (.ref L), some (.ref M), y3, y4] ∧ H' L = some (.lst ys) ∧ H' M = some (.lst zs) ∧ Paired (FrV H') ys ql ∧ Paired (FrV H') zs qf ∧ (qf ++ ql).Perm q0 ∧ qf.Pairwise frLe ∧ (∀ x ∈ qf, ∀ y ∈ ql, frLe x y) ∧ m = ql.length
  same : Same H H'
theorem ok__law_ascending (T : Blt mg) (D : DefAt K mg "_law_ascending" s__law_ascending ["_law_steps"]) : Cal P w K mg base 1 "_law_ascending" ["_law_steps"] sp__law_ascending := by
  refine cal_of D sc__law_ascending len1 fun f cdv A outer s H vs Q E hr h => ?_
  obtain ⟨_, rfl, t, vs0, q0, rfl, ht, pr0, l6, ok0, q⟩ := h
  refine ⟨_, (pss_cons (ps_set (i := 1) sc__law_ascending.nd rfl (.inl rfl) (pe_callTy call_list_of (by rfl) T.b_list (by decide +kernel) (pa_cons (pv 0) pa_nil)))
    (pss_cons (ps_set (i := 2) sc__law_ascending.nd rfl (.inl rfl) (pe_lst pa_nil))
    (pss_cons (ps_while PassesOwn.never (pt_cmpR op_gt (pe_callB call_len_seq (by rfl) T.b_len (by decide +kernel) (pa_cons (pv 1) pa_nil)) pe_int (nomark _))
    (pss_cons (ps_set (i := 3) sc__law_ascending.nd rfl (.inl rfl) (pe_ix ix_list (pv 1) pe_int (fun _ _ => rfl)))
    (pss_cons (ps_for PassesOwn.never rfl (pi_list (pv 1)) (pg_name (i := 4) sc__law_ascending.nd rfl (.inl rfl))
    (pss_one (ps_if (pt_cmpR op_lt (pe_op op_mul (pe_ix ix_tup (pv 4) pe_int (fun _ _ => rfl)) (pe_ix ix_tup (pv 3) pe_int (fun _ _ => rfl))) (pe_op op_mul (pe_ix ix_tup (pv 3) pe_int (fun _ _ => rfl)) (pe_ix ix_tup (pv 4) pe_int (fun _ _ => rfl))) (nomark _))
    (pss_one (ps_set (i := 3) sc__law_ascending.nd rfl (.inl rfl) (pv 4)))
    pss_nil)))
    (pss_cons (ps_expr (pe_bm PySem.F.plainAttrs_list PySem.F.slot_list_remove PySem.F.type_list_remove (mt_removeD hr.units) (pv 1) (pa_cons (pv 3) pa_nil)))
    (pss_one (ps_expr (pe_bm PySem.F.plainAttrs_list PySem.F.slot_list_append PySem.F.type_list_append mt_append (pv 2) (pa_cons (pv 3) pa_nil))))))))
    (pss_one (ps_ret (pe_callTy call_tuple_of (by rfl) T.b_tuple (by decide +kernel) (pa_cons (pv 2) pa_nil))))))), ?_⟩
  refine ⟨_, rfl, t, vs0, rfl, ht.imp SqL.of SqT.of, fun L hL => ?_⟩
  have e1 : Same H (upd H L (.lst vs0)) := same_new hL
  have hL1 : (upd H L (.lst vs0)) L = some (.lst vs0) := upd_same
  generalize upd H L (.lst vs0) = H1 at e1 hL1
  refine ⟨Nat.zero_le _, fun M hM => ?_⟩
  have e2 : Same H1 (upd H1 M (.lst [])) := same_new hM
  have hM2 : (upd H1 M (.lst [])) M = some (.lst []) := upd_same
  have hLM : L ≠ M := ne_of_none hL1 hM
  have hM0 : H M = none := e1.free hM
  have hL2 := e2 _ _ hL1
  have e02 := e1.trans e2
  generalize upd H1 M (.lst []) = H2 at e2 hM2 hL2 e02
  refine ⟨WAsc H q0 (.ref t) L M, ⟨q0.length, ⟨vs0, [], q0, [], none, none, rfl, hL2, hM2, L2.Paired.mapP pr0 fun _ _ z => z.up (sts e02), .nil, List.Perm.refl _, .nil, fun x z => by simp at z, rfl⟩, e02⟩, ?_⟩
  rintro m σ H3 ⟨⟨ys, zs, ql, qf, y3, y4, rfl, hl, hm, prl, prf, hp, hs, hx, rfl⟩, e3⟩
  have len := pr_len prl
  refine ⟨_, rfl, L, ys, rfl, .inl (SqL.of hl), _, _, rfl, rfl, _, rfl, ?_⟩
  have okl : ∀ q ∈ ql, FrOk q := fun q hq => ok0 q (hp.mem_iff.mp (List.mem_append_right _ hq))
  have okf : ∀ q ∈ qf, FrOk q := fun q hq => ok0 q (hp.mem_iff.mp (List.mem_append_left _ hq))
  have hlen : qf.length + ql.length = q0.length := by
    rw [← List.length_append]
    exact hp.length_eq
  have zlen := pr_len prf
  by_cases h0 : (0 : Int) < ys.length
  · refine iteD h0 ⟨fun σ' H' => ∃ m', m' < ql.length ∧ WAsc H q0 (.ref t) L M m' σ' H', fun _ _ z => z, ?_⟩
    obtain ⟨v0, gv0⟩ : ∃ v0, ys[0]? = some v0 := ⟨ys[0]'(by omega), List.getElem?_eq_getElem (by omega)⟩
    obtain ⟨x0, gx0, rx0⟩ := pr_get prl gv0
    refine ⟨_, rfl, L, _, _, _, rfl, rfl, SqL.of hl, atI_nat (j := 0) gv0, ?_⟩
    refine ⟨_, rfl, L, rfl, ⟨_, SqL.of hl⟩, for_list (xs := ys) (fun i σ H4 => H4 = H3 ∧ ∃ v y4 x, σ = [some (.ref t), some (.ref L), some (.ref M), some v, y4] ∧ FrV H3 v x ∧ x ∈ ql ∧ ∀ (j : Nat) y, j < i → ql[j]? = some y → frLe x y) ⟨rfl, v0, y4, x0, rfl, rx0, List.mem_of_getElem? gx0, fun j y z => absurd z (Nat.not_lt_zero _)⟩ (fun i σ H4 _ z => by rw [z.1]; exact SqL.of hl) (fun i u σ H4 hu z => ?_) (fun σ H4 z => ?_)⟩
    · obtain ⟨rfl, v, y4, x, rfl, ⟨pv', rfl, hv⟩, hxl, hle⟩ := z
      obtain ⟨y, gy, pu', rfl, hu'⟩ := pr_get prl hu
      have b1 := okl x hxl
      have b2 := okl y (List.mem_of_getElem? gy)
      refine ⟨_, rfl, pu', _, _, _, rfl, rfl, SqT.of hu', atI_nat (j := 0) rfl, _, rfl, pv', _, _, _, rfl, rfl, SqT.of hv, atI_nat (j := 1) rfl, _, _, rfl, rfl, .inr ⟨by have := b1.2.2; omega, by have := b1.2.2; omega⟩, ?_⟩
      refine ⟨_, rfl, pv', _, _, _, rfl, rfl, SqT.of hv, atI_nat (j := 0) rfl, _, rfl, pu', _, _, _, rfl, rfl, SqT.of hu', atI_nat (j := 1) rfl, _, _, rfl, rfl, .inr ⟨by have := b2.2.2; omega, by have := b2.2.2; omega⟩, _, _, rfl, rfl, _, rfl, ?_⟩
      by_cases hb : y.1 * x.2 < x.1 * y.2
      · refine iteD hb ⟨_, rfl, rfl, _, some (.ref pu'), y, rfl, ⟨pu', rfl, hu'⟩, List.mem_of_getElem? gy, fun j z hj gz => ?_⟩
        by_cases hc : j < i
        · exact frLe_trans b2.2.2.1 b1.2.2.1 (okl z (List.mem_of_getElem? gz)).2.2.1 (show frLe y x from Int.le_of_lt hb) (hle j z hc gz)
        · have ej : j = i := by omega
          subst ej
          cases gy.symm.trans gz
          exact frLe_refl _
      · refine iteND hb ⟨rfl, _, some (.ref pu'), x, rfl, ⟨pv', rfl, hv⟩, hxl, fun j z hj gz => ?_⟩
        by_cases hc : j < i
        · exact hle j z hc gz
        · have ej : j = i := by omega
          subst ej
          cases gy.symm.trans gz
          exact Int.not_lt.mp hb
    · obtain ⟨rfl, v, y4, x, rfl, hv, hxl, hle⟩ := z
      cases hpl : SeqAt.dataPlace (ql.map fd) (fd x) with
      | none =>
        have := List.findIdx?_eq_none_iff.mp hpl (fd x) (List.mem_map_of_mem hxl)
        rw [fd_eqv, decide_eq_true rfl] at this
        cases this
      | some j =>
        obtain ⟨j1, j2, _⟩ := List.findIdx?_eq_some_iff_getElem.mp hpl
        rw [List.length_map] at j1
        rw [List.getElem_map, fd_eqv] at j2
        have ej : ql[j] = x := of_decide_eq_true j2
        have gj : ql[j]? = some x := by rw [List.getElem?_eq_getElem j1, ej]
        refine ⟨_, rfl, .inl ⟨rfl, _, SqL.of hl⟩, _, rfl, L, ys, v, fd x, ql.map fd, j, rfl, rfl, hl, fds_dp prl, fd_dp hv, fds_plain _, fd_plain _, by rw [fd_depth]; omega, hpl, ?_⟩
        have t1 : TS H4 (upd H4 L (.lst (ys.eraseIdx j))) := ts_upd hl
        have hm' : (upd H4 L (.lst (ys.eraseIdx j))) M = some (.lst zs) := by
          rw [upd_ne hLM.symm]
          exact hm
        have hl' : (upd H4 L (.lst (ys.eraseIdx j))) L = some (.lst (ys.eraseIdx j)) := upd_same
        have e5 : Same H (upd H4 L (.lst (ys.eraseIdx j))) := same_mut e3 hL
        generalize upd H4 L (.lst (ys.eraseIdx j)) = H5 at t1 hm' hl' e5
        refine ⟨_, rfl, .inl ⟨rfl, _, SqL.of hm'⟩, _, rfl, M, zs, v, rfl, rfl, hm', z_lt (by omega), ?_⟩
        have t2 : TS H5 (upd H5 M (.lst (zs ++ [v]))) := ts_upd hm'
        have le1 := len_erase1 gj
        refine ⟨(ql.eraseIdx j).length, by omega, ⟨ys.eraseIdx j, zs ++ [v], ql.eraseIdx j, qf ++ [x], _, _, rfl, ?_, upd_same, L2.Paired.mapP (pr_erase j prl) fun _ _ z => z.up (t1.trans t2), L2.Paired.mapP (pr_app prf (pr_one hv)) fun _ _ z => z.up (t1.trans t2), ?_, ?_, ?_, rfl⟩, same_mut e5 hM0⟩
        · rw [upd_ne hLM]
          exact hl'
        · rw [List.append_assoc]
          exact (List.Perm.append_left qf (perm_erase gj).symm).trans hp
        · rw [List.pairwise_append]
          refine ⟨hs, List.pairwise_singleton _ _, fun a ha b hb => ?_⟩
          rw [List.mem_singleton] at hb
          subst hb
          exact hx a ha b hxl
        · intro a ha b hb
          have hb' := mem_erase gj hb
          rcases List.mem_append.mp ha with ha | ha
          · exact hx a ha b hb'
          · rw [List.mem_singleton] at ha
            subst ha
            obtain ⟨i, hi, e⟩ := List.mem_iff_getElem.mp hb'
            exact hle i b (by omega) (by rw [List.getElem?_eq_getElem hi, e])
  · refine iteND h0 ?_
    have hy : ys = [] := List.length_eq_zero_iff.mp (by omega)
    subst hy
    have hql : ql = [] := (pr_ne prl).mp rfl
    subst hql
    refine ⟨_, rfl, M, zs, rfl, .inl ⟨SqL.of hm, fun p hp' => ?_⟩⟩
    have e4 := same_new (o := .tup zs) hp'
    rw [List.append_nil] at hp
    exact q _ _ qf (e3.trans e4) ⟨p, zs, rfl, upd_same, L2.Paired.mapP prf fun _ _ z => z.up (sts e4)⟩ hp hs
theorem sc__law_pairs : FnScope ["_law_sorts_here", "_law_found", "_law_one", "_law_other"] ["_law_sorts_here"] (defScope s__law_pairs) := ⟨rfl, rfl, rfl, by decide +kernel, rfl, by decide +kernel, by decide +kernel⟩
def sp__law_pairs : Sp := Sp1 fun a H Q => ∃ ss : List Fr, LsV H a ss ∧ SortsOk ss ∧ (∃ s ∈ ss, 0 < s.1) ∧
  ∀ H' L ys js, Same H H' → H L = none → H' L = some (.lst ys) → Paired (FrV H') ys js → (∀ j ∈ js, JoinOk ss j) → js.Pairwise lexlt → js ≠ [] → js.length ≤ 16 → Q (.ref L) H'
theorem ok__law_pairs (T : Blt mg) (D : DefAt K mg "_law_pairs" s__law_pairs ["_law_sorts_here"]) : Cal P w K mg base 1 "_law_pairs" ["_law_sorts_here"] sp__law_pairs := by
  refine cal_of D sc__law_pairs len1 fun f cdv A outer s H vs Q E hr h => ?_
  obtain ⟨_, rfl, ss, ⟨ps, us, rfl, hs, pr⟩, okS, ⟨s0, hs0, hw0⟩, q⟩ := h
  have slen := pr_len pr
  have s4 : ss.length ≤ 4 := okS.2.1
  have at1 : ∀ n : Int, 0 ≤ n → n < (ss.length : Int) → ∃ t, atI us n = some (.ref t) ∧ H t = some (.tup [.int (sAt ss n).1, .int (sAt ss n).2]) := fun n n1 n2 => by
    obtain ⟨_, g1, t1, rfl, r1⟩ := pr_get' pr (sAt_get n1 n2)
    exact ⟨t1, at_of (j := n.toNat) (by omega) g1, r1⟩
  refine ⟨_, (pss_cons (ps_set (i := 1) sc__law_pairs.nd rfl (.inl rfl) (pe_lst pa_nil))
    (pss_cons (ps_for PassesOwn.never rfl (pi_range1 (by rfl) T.b_range (pa_cons (pe_callB call_len_seq (by rfl) T.b_len (by decide +kernel) (pa_cons (pv 0) pa_nil)) pa_nil)) (pg_name (i := 2) sc__law_pairs.nd rfl (.inl rfl))
    (pss_one (ps_for PassesOwn.never rfl (pi_range2 (by rfl) T.b_range (pa_cons (pv 2) (pa_cons (pe_callB call_len_seq (by rfl) T.b_len (by decide +kernel) (pa_cons (pv 0) pa_nil)) pa_nil))) (pg_name (i := 3) sc__law_pairs.nd rfl (.inl rfl))
    (pss_one (ps_if (PW.pt (pw_or (pt_cmpR op_gt (pe_ix ix_tup (pe_ix ix_tup (pv 0) (pv 2) (fun _ _ => rfl)) pe_int (fun _ _ => rfl)) pe_int (nomark _)) (pw_or1 (pt_cmpR op_gt (pe_ix ix_tup (pe_ix ix_tup (pv 0) (pv 3) (fun _ _ => rfl)) pe_int (fun _ _ => rfl)) pe_int (nomark _)))))
    (pss_one (ps_expr (pe_bm PySem.F.plainAttrs_list PySem.F.slot_list_append PySem.F.type_list_append mt_append (pv 1) (pa_cons (pe_tup (pa_cons (pv 2) (pa_cons (pv 3) pa_nil))) pa_nil))))
    pss_nil)))))
    (pss_one (ps_ret (pv 1))))), ?_⟩
  refine ⟨Nat.zero_le _, fun L hL => ?_⟩
  have e1 : Same H (upd H L (.lst [])) := same_new hL
  have hL1 : (upd H L (.lst [])) L = some (.lst []) := upd_same
  generalize upd H L (.lst []) = H1 at e1 hL1
  refine ⟨_, rfl, ps, us, rfl, .inr (SqT.of (e1 _ _ hs)), _, rfl, by omega, by omega, for_range (fun i σ H2 => Same H H2 ∧ (∃ ys js, H2 L = some (.lst ys) ∧ Paired (FrV H2) ys js ∧ (∀ j ∈ js, JoinOk ss j) ∧ js.Pairwise lexlt ∧ (∀ j ∈ js, j.1 < (i : Int)) ∧ js.length ≤ 4 * i ∧ ((∃ (n : Nat) (s : Fr), n < i ∧ ss[n]? = some s ∧ 0 < s.1) → js ≠ [])) ∧ ∃ y2 y3, σ = [some (.ref ps), some (.ref L), y2, y3]) ⟨e1, ⟨[], [], hL1, .nil, fun _ z => by simp at z, .nil, fun _ z => by simp at z, Nat.le_refl _, fun ⟨n, _, z, _⟩ => absurd z (Nat.not_lt_zero _)⟩, none, none, rfl⟩ (fun i σ H2 hi z => ?_) (fun σ H2 z => ?_)⟩
  · obtain ⟨z1, ⟨ys, js, a1, a2, a3, a4, a5, a6, a7⟩, y2, y3, rfl⟩ := z
    have hi' : i < ss.length := by omega
    obtain ⟨ti, gi, hti⟩ := at1 i (by omega) (by omega)
    show tFor _ _ _ _ _ _
    refine ⟨_, rfl, _, rfl, ps, us, rfl, .inr (SqT.of (z1 _ _ hs)), _, _, rfl, ⟨by omega, by omega, by omega, by omega⟩, for_range (fun m σ H3 => Same H H3 ∧ (∃ ys js, H3 L = some (.lst ys) ∧ Paired (FrV H3) ys js ∧ (∀ j ∈ js, JoinOk ss j) ∧ js.Pairwise lexlt ∧ (∀ j ∈ js, j.1 < (i : Int) ∨ (j.1 = (i : Int) ∧ j.2 < (i : Int) + m)) ∧ js.length ≤ 4 * i + m ∧ ((∃ (n : Nat) (s : Fr), (n < i ∨ (n = i ∧ 0 < m)) ∧ ss[n]? = some s ∧ 0 < s.1) → js ≠ [])) ∧ ∃ y3, σ = [some (.ref ps), some (.ref L), some (.int (0 + (i : Int))), y3]) ⟨z1, ⟨ys, js, a1, a2, a3, a4, fun j hj => .inl (a5 j hj), by omega, fun ⟨n, s, h1, h2⟩ => a7 ⟨n, s, by omega, h2⟩⟩, _, rfl⟩ (fun m σ H3 hm z => ?_) (fun σ H3 z => ?_)⟩
    · obtain ⟨z3, ⟨ys, js, b1, b2, b3, b4, b5, b6, b7⟩, y3, rfl⟩ := z
      have hn1 : (0 : Int) + (i : Int) + (m : Int) < (ss.length : Int) := by omega
      obtain ⟨ti', gi', hti'⟩ := at1 (0 + (i : Int)) (by omega) (by omega)
      obtain ⟨tm, gm, htm⟩ := at1 (0 + (i : Int) + (m : Int)) (by omega) hn1
      have add : (0 < (sAt ss (0 + (i : Int))).1 ∨ 0 < (sAt ss (0 + (i : Int) + (m : Int))).1) → tDrop (tBM K "list" rAppend (tVar 1) (tCons (tTup (tCons (tVar 2) (tCons (tVar 3) tNil))) tNil)) { nx := fun σ H3 => Same H H3 ∧ (∃ ys js, H3 L = some (.lst ys) ∧ Paired (FrV H3) ys js ∧ (∀ j ∈ js, JoinOk ss j) ∧ js.Pairwise lexlt ∧ (∀ j ∈ js, j.1 < (i : Int) ∨ (j.1 = (i : Int) ∧ j.2 < (i : Int) + ((m + 1 : Nat) : Int))) ∧ js.length ≤ 4 * i + (m + 1) ∧ ((∃ (n : Nat) (s : Fr), (n < i ∨ (n = i ∧ 0 < m + 1)) ∧ ss[n]? = some s ∧ 0 < s.1) → js ≠ [])) ∧ ∃ y3, σ = [some (.ref ps), some (.ref L), some (.int (0 + (i : Int))), y3], rt := Q, bk := fun _ _ => False, ct := fun _ _ => False } [some (.ref ps), some (.ref L), some (.int (0 + (i : Int))), some (.int (0 + (i : Int) + (m : Int)))] H3 := fun hw => by
        refine ⟨_, rfl, .inl ⟨rfl, _, SqL.of b1⟩, _, rfl, _, rfl, (by show 2 ≤ sizeLine; decide), fun t ht => ?_⟩
        have e4 := same_new (o := .tup [V.int (0 + (i : Int)), V.int (0 + (i : Int) + (m : Int))]) ht
        have t4 := ts_upd (o := .lst (ys ++ [.ref t])) (e4 _ _ b1)
        have ylen := pr_len b2
        refine ⟨L, ys, .ref t, rfl, rfl, e4 _ _ b1, z_lt (by omega), same_mut (z3.trans e4) hL, ⟨ys ++ [.ref t], js ++ [(0 + (i : Int), 0 + (i : Int) + (m : Int))], upd_same, pr_app (L2.Paired.mapP b2 fun _ _ z => z.up ((sts e4).trans t4)) (pr_one (FrV.up t4 ⟨t, rfl, upd_same⟩)), ?_, ?_, ?_, ?_, ?_⟩, _, rfl⟩
        · intro j hj
          rcases List.mem_append.mp hj with hj | hj
          · exact b3 j hj
          · rw [List.mem_singleton] at hj
            subst hj
            exact ⟨by show (0 : Int) ≤ 0 + (i : Int); omega, by show (0 : Int) + (i : Int) ≤ 0 + (i : Int) + (m : Int); omega, hn1, hw⟩
        · rw [List.pairwise_append]
          refine ⟨b4, List.pairwise_singleton _ _, fun a ha b hb => ?_⟩
          rw [List.mem_singleton] at hb
          subst hb
          rcases b5 a ha with h | ⟨h1, h2⟩
          · exact .inl (by show a.1 < 0 + (i : Int); omega)
          · exact .inr ⟨by show a.1 = 0 + (i : Int); omega, by show a.2 < 0 + (i : Int) + (m : Int); omega⟩
        · intro j hj
          rcases List.mem_append.mp hj with hj | hj
          · rcases b5 j hj with h | ⟨h1, h2⟩
            · exact .inl h
            · exact .inr ⟨h1, by omega⟩
          · rw [List.mem_singleton] at hj
            subst hj
            exact .inr ⟨by show (0 : Int) + (i : Int) = i; omega, by show (0 : Int) + (i : Int) + (m : Int) < (i : Int) + ((m + 1 : Nat) : Int); omega⟩
        · rw [List.length_append, List.length_singleton]
          omega
        · intro _ z
          exact absurd (List.append_eq_nil_iff.mp z).2 (by simp)
      refine ⟨_, rfl, _, rfl, ps, us, _, _, rfl, rfl, SqT.of (z3 _ _ hs), gi', ti', _, _, _, rfl, rfl, SqT.of (z3 _ _ hti'), atI_nat (j := 0) rfl, _, _, rfl, rfl, _, rfl, ?_⟩
      by_cases h0 : 0 < (sAt ss (0 + (i : Int))).1
      · exact iteD h0 (add (.inl h0))
      · refine iteND h0 ?_
        refine ⟨_, rfl, _, rfl, ps, us, _, _, rfl, rfl, SqT.of (z3 _ _ hs), gm, tm, _, _, _, rfl, rfl, SqT.of (z3 _ _ htm), atI_nat (j := 0) rfl, _, _, rfl, rfl, _, rfl, ?_⟩
        by_cases h1 : 0 < (sAt ss (0 + (i : Int) + (m : Int))).1
        · exact iteD h1 (add (.inr h1))
        · refine iteND h1 ⟨z3, ⟨ys, js, b1, b2, b3, b4, fun j hj => ?_, by omega, fun ⟨n, s, g1, g2, g3⟩ => b7 ⟨n, s, ?_, g2, g3⟩⟩, _, rfl⟩
          · rcases b5 j hj with h | ⟨h1, h2⟩
            · exact .inl h
            · exact .inr ⟨h1, by omega⟩
          · by_cases hm0 : 0 < m
            · omega
            · rcases g1 with g1 | ⟨g1, _⟩
              · exact .inl g1
              · exfalso
                subst g1
                have e0 : sAt ss (0 + (n : Int)) = s := by
                  have := sAt_get (ss := ss) (i := 0 + (n : Int)) (by omega) (by omega)
                  rw [show (0 + (n : Int)).toNat = n by omega, g2] at this
                  exact (Option.some.inj this).symm
                rw [e0] at h0
                exact h0 g3
    · obtain ⟨z3, ⟨ys, js, b1, b2, b3, b4, b5, b6, b7⟩, y3, rfl⟩ := z
      refine ⟨z3, ⟨ys, js, b1, b2, b3, b4, fun j hj => ?_, by omega, fun ⟨n, s, g1, g2⟩ => b7 ⟨n, s, by omega, g2⟩⟩, _, _, rfl⟩
      rcases b5 j hj with h | ⟨h1, h2⟩ <;> omega
  · obtain ⟨z1, ⟨ys, js, a1, a2, a3, a4, a5, a6, a7⟩, y2, y3, rfl⟩ := z
    refine ⟨_, rfl, q _ L ys js z1 hL a1 a2 a3 a4 (a7 ?_) (by omega)⟩
    obtain ⟨n, hn, e⟩ := List.mem_iff_getElem.mp hs0
    exact ⟨n, s0, by omega, by rw [List.getElem?_eq_getElem hn, e], hw0⟩
end
end K30
set_option Elab.async false
set_option linter.all false
set_option maxRecDepth 100000
set_option maxHeartbeats 4000000
namespace K30
open PySem PySem.Spec PyProof.Rows L2
section
variable {P : Program} {w : World} {K : PySem.W.Frag} {mg : Str → Option Value} {base : Heap}
/-! ### the pool of draws: a list of two numbers and a list -/
structure Pool (H : Hp) (p c : Addr) : Prop where
  ex : ∃ (s t : Int) (ns : List Int), H p = some (.lst [.int s, .int t, .ref c]) ∧ H c = some (.lst (ns.map V.int)) ∧ ns.length ≤ 63
  ne : p ≠ c
theorem Pool.up {H H' : Hp} {p c : Addr} (P : Pool H p c) (e : Same H H') : Pool H' p c := by
  obtain ⟨⟨s, t, ns, h1, h2, h3⟩, n⟩ := P
  exact ⟨⟨s, t, ns, e _ _ h1, e _ _ h2, h3⟩, n⟩
theorem Pool.apart {H : Hp} {p c x : Addr} {o : HO} (P : Pool H p c) (h : H x = some o) (ho : ∀ l, o ≠ .lst l) : x ≠ p ∧ x ≠ c := by
  obtain ⟨⟨s, t, ns, h1, h2, h3⟩, n⟩ := P
  exact ⟨ne_of h h1 (ho _), ne_of h h2 (ho _)⟩
theorem Pool.fresh {H : Hp} {p c x : Addr} (P : Pool H p c) (h : H x = none) : x ≠ p ∧ x ≠ c := by
  obtain ⟨⟨s, t, ns, h1, h2, h3⟩, n⟩ := P
  exact ⟨fun z => (by rw [z, h1] at h; cases h), fun z => (by rw [z, h2] at h; cases h)⟩
/-- from H to H': all but the pool is as it was -/
structure Dr (p c : Addr) (H H' : Hp) : Prop where
  k : ∀ b o, b ≠ p → b ≠ c → H b = some o → H' b = some o
  po : Pool H' p c
  t : TS H H'
theorem Dr.refl {p c : Addr} {H : Hp} (P : Pool H p c) : Dr p c H H := ⟨fun _ _ _ _ h => h, P, TS.refl _⟩
theorem Dr.trans {p c : Addr} {H H1 H2 : Hp} (a : Dr p c H H1) (b : Dr p c H1 H2) : Dr p c H H2 := ⟨fun x o h1 h2 h => b.k x o h1 h2 (a.k x o h1 h2 h), b.po, a.t.trans b.t⟩
theorem Dr.same {p c : Addr} {H H1 H2 : Hp} (a : Dr p c H H1) (e : Same H1 H2) : Dr p c H H2 := ⟨fun x o h1 h2 h => e x o (a.k x o h1 h2 h), a.po.up e, a.t.trans (sts e)⟩
theorem Dr.of {p c : Addr} {H H1 : Hp} (P : Pool H p c) (e : Same H H1) : Dr p c H H1 := (Dr.refl P).same e
theorem Dr.free {p c x : Addr} {H H1 : Hp} (a : Dr p c H H1) (h : H1 x = none) : H x = none := by
  obtain ⟨n1, n2⟩ := a.po.fresh h
  cases q : H x with
  | none => rfl
  | some o =>
    rw [a.k x o n1 n2 q] at h
    cases h
/-- a list of one's own, made since H, is changed -/
theorem Dr.mut {p c L : Addr} {H H1 : Hp} {ys zs : List V} (a : Dr p c H H1) (h0 : H L = none) (hl : H1 L = some (.lst ys)) (n1 : L ≠ p) (n2 : L ≠ c) : Dr p c H (upd H1 L (.lst zs)) := by
  refine ⟨fun x o x1 x2 h => ?_, ?_, a.t.trans (ts_upd hl)⟩
  · rw [upd_ne (ne_of_none h h0)]
    exact a.k x o x1 x2 h
  · obtain ⟨⟨s, t, ns, h1, h2, h3⟩, n⟩ := a.po
    exact ⟨⟨s, t, ns, by rw [upd_ne n1.symm]; exact h1, by rw [upd_ne n2.symm]; exact h2, h3⟩, n⟩
theorem ix_0 {n : Nat} (h : 0 < n) : ixN n 0 = some 0 := by
  unfold ixN
  rw [if_pos (by omega), if_pos (by omega)]
  rfl
theorem ix_1 {n : Nat} (h : 1 < n) : ixN n 1 = some 1 := by
  unfold ixN
  rw [if_pos (by omega), if_pos (by omega)]
  rfl
theorem sc__law_draw : FnScope ["_law_pool_here", "_law_many", "_law_cells", "_law_digit", "_law_mixed"] ["_law_pool_here", "_law_many"] (defScope s__law_draw) := ⟨rfl, rfl, rfl, by decide +kernel, rfl, by decide +kernel, by decide +kernel⟩
def sp__law_draw : Sp := Sp2 fun a b H Q => ∃ (p c : Addr) (m : Int), a = .ref p ∧ b = .int m ∧ Pool H p c ∧ 1 ≤ m ∧ m ≤ 1000000 ∧ ∀ H' d, 0 ≤ d → d < m → Dr p c H H' → Q (.int d) H'
theorem ok__law_draw (T : Blt mg) (D : DefAt K mg "_law_draw" s__law_draw ["_law_pool_here", "_law_many"]) : Cal P w K mg base 1 "_law_draw" ["_law_pool_here", "_law_many"] sp__law_draw := by
  refine cal_of D sc__law_draw len2 fun f cdv A outer s H vs Q E hr h => ?_
  obtain ⟨_, _, rfl, p, c, m, rfl, rfl, PO, m1, m2, q⟩ := h
  obtain ⟨⟨sd, tn, ns, hp, hc, hn⟩, hne⟩ := id PO
  have m0 : (0 : Int) < m := by omega
  have mm : ∀ a : Int, 0 ≤ a % m ∧ a % m < m := fun a => ⟨Int.emod_nonneg a (by omega), Int.emod_lt_of_pos a m0⟩
  -- the cells changed
  have cellsC : ∀ ms : List Int, ms.length ≤ 63 → Dr p c H (upd H c (.lst (ms.map V.int))) := fun ms hm => by
    refine ⟨fun b o b1 b2 h => by rw [upd_ne b2]; exact h, ⟨⟨sd, tn, ms, by rw [upd_ne hne]; exact hp, upd_same, hm⟩, hne⟩, ts_upd hc⟩
  refine ⟨_, (pss_cons (ps_set (i := 2) sc__law_draw.nd rfl (.inl rfl) (pe_ix ix_list (pv 0) pe_int (fun _ _ => rfl)))
    (pss_cons (ps_if (pt_cmpR op_gt (pe_callB call_len_seq (by rfl) T.b_len (by decide +kernel) (pa_cons (pv 2) pa_nil)) pe_int (nomark _))
    (pss_cons (ps_set (i := 3) sc__law_draw.nd rfl (.inl rfl) (pe_op op_mod (pe_callTy call_int1 (by rfl) T.b_int (by decide +kernel) (pa_cons (pe_ix ix_list (pv 2) pe_int (fun _ _ => rfl)) pa_nil)) (pv 1)))
    (pss_cons (ps_asg (pe_op op_fdivW (pe_callTy call_int1 (by rfl) T.b_int (by decide +kernel) (pa_cons (pe_ix ix_list (pv 2) pe_int (fun _ _ => rfl)) pa_nil)) (pv 1)) (pg_sub (pv 2) pe_int set_list))
    (pss_cons (ps_if (pt_cmpR op_eq (pe_ix ix_list (pv 2) pe_int (fun _ _ => rfl)) pe_int (nomark _))
    (pss_one (ps_expr (pe_bm PySem.F.plainAttrs_list PySem.F.slot_list_pop PySem.F.type_list_pop mt_popAt (pv 2) (pa_cons pe_int pa_nil))))
    pss_nil)
    (pss_one (ps_ret (pv 3))))))
    pss_nil)
    (pss_cons (ps_asg (pe_op op_add (pe_ix ix_list (pv 0) pe_int (fun _ _ => rfl)) pe_int) (pg_sub (pv 0) pe_int set_list))
    (pss_cons (ps_set (i := 4) sc__law_draw.nd rfl (.inl rfl) (pe_op op_mod (pe_callTy call_int1 (by rfl) T.b_int (by decide +kernel) (pa_cons (pe_op op_mul (pe_op op_add (pe_ix ix_list (pv 0) pe_int (fun _ _ => rfl)) (pe_op op_mul pe_int (pe_ix ix_list (pv 0) pe_int (fun _ _ => rfl)))) pe_int) pa_nil)) pe_int))
    (pss_cons (ps_set (i := 4) sc__law_draw.nd rfl (.inl rfl) (pe_op op_mod (pe_callTy call_int1 (by rfl) T.b_int (by decide +kernel) (pa_cons (pe_op op_mul (pv 4) (pe_op op_add (pe_op op_fdiv (pv 4) pe_int) pe_int)) pa_nil)) pe_int))
    (pss_cons (ps_set (i := 4) sc__law_draw.nd rfl (.inl rfl) (pe_op op_mod (pe_callTy call_int1 (by rfl) T.b_int (by decide +kernel) (pa_cons (pe_op op_mul (pv 4) (pe_op op_add (pe_op op_fdiv (pv 4) pe_int) pe_int)) pa_nil)) pe_int))
    (pss_one (ps_ret (pe_op op_mod (pe_callTy call_int1 (by rfl) T.b_int (by decide +kernel) (pa_cons (pe_op op_fdiv (pv 4) pe_int) pa_nil)) (pv 1)))))))))), ?_⟩
  refine ⟨_, rfl, p, _, _, _, rfl, rfl, SqL.of hp, atI_nat (j := 2) rfl, ?_⟩
  refine ⟨_, rfl, c, _, rfl, .inl (SqL.of hc), _, _, rfl, rfl, _, rfl, ?_⟩
  cases ns with
  | cons n r =>
    refine iteD (by simp) ?_
    refine ⟨_, rfl, c, _, _, _, rfl, rfl, SqL.of hc, atI_nat (j := 0) rfl, .inl ⟨_, rfl, _, rfl, _, _, rfl, rfl, m0, ?_⟩⟩
    refine ⟨_, rfl, c, _, _, _, rfl, rfl, SqL.of hc, atI_nat (j := 0) rfl, .inl ⟨_, rfl, _, rfl, _, _, rfl, rfl, wide_div (b := 20) m0 (by omega) (by decide) (by decide), ?_⟩⟩
    refine ⟨_, rfl, c, _, 0, 0, rfl, rfl, hc, ix_0 (by simp), ?_⟩
    have dr1 := cellsC ((n / m) :: r) hn
    have hc1 : (upd H c (.lst ((((n :: r).map V.int)).set 0 (.int (n / m))))) c = some (.lst (((n / m) :: r).map V.int)) := upd_same
    refine ⟨_, rfl, c, _, _, _, rfl, rfl, SqL.of hc1, atI_nat (j := 0) rfl, rfl, _, rfl, ?_⟩
    by_cases h0 : n / m = 0
    · refine iteD (congrArg V.int h0) ?_
      refine ⟨_, rfl, .inl ⟨rfl, _, SqL.of hc1⟩, c, _, 0, 0, _, rfl, rfl, hc1, by omega, by omega, (ixN_seq (ix_0 (by simp))).1, rfl, ?_⟩
      refine ⟨_, rfl, q _ _ (mm n).1 (mm n).2 ?_⟩
      have dr2 := cellsC r (by rw [List.length_cons] at hn; omega)
      have e : upd (upd H c (.lst ((((n :: r).map V.int)).set 0 (.int (n / m))))) c (.lst ((((n / m) :: r).map V.int).eraseIdx 0)) = upd H c (.lst (r.map V.int)) := upd_upd
      rw [e]
      exact dr2
    · refine iteND (fun z => h0 (V.int.inj z)) ?_
      exact ⟨_, rfl, q _ _ (mm n).1 (mm n).2 dr1⟩
  | nil =>
    refine iteND (by simp) ?_
    refine ⟨_, rfl, p, _, _, _, rfl, rfl, SqL.of hp, atI_nat (j := 1) rfl, _, _, rfl, rfl, ?_⟩
    refine ⟨_, rfl, p, _, 1, 1, rfl, rfl, hp, ix_1 (by simp), ?_⟩
    have hp1 : (upd H p (.lst (([.int sd, .int tn, .ref c] : List V).set 1 (.int (tn + 1))))) p = some (.lst [.int sd, .int (tn + 1), .ref c]) := upd_same
    have dr1 : Dr p c H (upd H p (.lst (([.int sd, .int tn, .ref c] : List V).set 1 (.int (tn + 1))))) :=
      ⟨fun b o b1 b2 h => by rw [upd_ne b1]; exact h, ⟨⟨sd, tn + 1, [], upd_same, by rw [upd_ne hne.symm]; exact hc, by simp⟩, hne⟩, ts_upd hp⟩
    refine ⟨_, rfl, p, _, _, _, rfl, rfl, SqL.of hp1, atI_nat (j := 0) rfl, _, rfl, p, _, _, _, rfl, rfl, SqL.of hp1, atI_nat (j := 1) rfl, _, _, rfl, rfl, .inl ⟨by omega, by omega⟩, _, _, rfl, rfl, _, _, rfl, rfl, .inr ⟨by omega, by omega⟩, .inl ⟨_, rfl, _, _, rfl, rfl, (by show (0 : Int) < 2147483647; decide), ?_⟩⟩
    generalize hx : (sd + 7919 * (tn + 1)) * 48271 % 2147483647 = x
    have x1 : 0 ≤ x := by rw [← hx]; exact Int.emod_nonneg _ (by decide)
    have x2 : x < 2147483647 := by rw [← hx]; exact Int.emod_lt_of_pos _ (by decide)
    refine ⟨_, rfl, _, rfl, _, _, rfl, rfl, ⟨by decide, by decide⟩, _, _, rfl, rfl, _, _, rfl, rfl, .inl ⟨by omega, by omega⟩, .inl ⟨_, rfl, _, _, rfl, rfl, (by show (0 : Int) < 2147483647; decide), ?_⟩⟩
    generalize hy : x * (x / 1009 + 69621) % 2147483647 = y
    have y1 : 0 ≤ y := by rw [← hy]; exact Int.emod_nonneg _ (by decide)
    have y2 : y < 2147483647 := by rw [← hy]; exact Int.emod_lt_of_pos _ (by decide)
    refine ⟨_, rfl, _, rfl, _, _, rfl, rfl, ⟨by decide, by decide⟩, _, _, rfl, rfl, _, _, rfl, rfl, .inl ⟨by omega, by omega⟩, .inl ⟨_, rfl, _, _, rfl, rfl, (by show (0 : Int) < 2147483399; decide), ?_⟩⟩
    refine ⟨_, rfl, _, _, rfl, rfl, ⟨by decide, by decide⟩, .inl ⟨_, rfl, _, rfl, _, _, rfl, rfl, m0, ?_⟩⟩
    exact q _ _ (mm _).1 (mm _).2 dr1
theorem sc__law_some : FnScope ["_law_pool_here", "_law_things"] ["_law_pool_here", "_law_things"] (defScope s__law_some) := ⟨rfl, rfl, rfl, by decide +kernel, rfl, by decide +kernel, by decide +kernel⟩
def sp__law_some : Sp := Sp2 fun a b H Q => ∃ (p c t : Addr) (xs : List V), a = .ref p ∧ b = .ref t ∧ Pool H p c ∧ ((H t = some (.lst xs) ∧ t ≠ p ∧ t ≠ c) ∨ H t = some (.tup xs)) ∧ 1 ≤ xs.length ∧ xs.length ≤ 1000 ∧
  ∀ H' (i : Nat) x, xs[i]? = some x → Dr p c H H' → Q x H'
theorem ok__law_some (T : Blt mg) (D : DefAt K mg "_law_some" s__law_some ["_law_pool_here", "_law_things"]) (c__law_draw : Cal P w K mg base 1 "_law_draw" ["_law_pool_here", "_law_many"] sp__law_draw) : Cal P w K mg base 2 "_law_some" ["_law_pool_here", "_law_things"] sp__law_some := by
  refine cal_of D sc__law_some len2 fun f cdv A outer s H vs Q E hr h => ?_
  obtain ⟨_, _, rfl, p, c, t, xs, rfl, rfl, PO, ht, l1, l2, q⟩ := h
  have hlen : SqL K H t xs ∨ SqT K H t xs := ht.imp (fun z => SqL.of z.1) SqT.of
  refine ⟨_, (pss_one (ps_ret (pe_ix ix_seq (pv 1) (pe_cal c__law_draw hr (by decide) (by rfl) (pa_cons (pv 0) (pa_cons (pe_callB call_len_seq (by rfl) T.b_len (by decide +kernel) (pa_cons (pv 1) pa_nil)) pa_nil))) (fun _ _ => rfl)))), ?_⟩
  refine ⟨_, rfl, _, rfl, _, rfl, t, xs, rfl, hlen, _, _, rfl, p, c, _, rfl, rfl, PO, by omega, by omega, fun H' d d1 d2 dr => ?_⟩
  have hd : d.toNat < xs.length := by omega
  have g : xs[d.toNat]? = some xs[d.toNat] := List.getElem?_eq_getElem hd
  have ga : atI xs d = some xs[d.toNat] := at_of (j := d.toNat) (by omega) g
  rcases ht with ⟨h1, h2, h3⟩ | h1
  · exact .inl ⟨t, xs, _, _, rfl, rfl, SqL.of (dr.k _ _ h2 h3 h1), ga, q _ _ _ g dr⟩
  · exact .inr (.inl ⟨t, xs, _, _, rfl, rfl, SqT.of (dr.t _ _ h1), ga, q _ _ _ g dr⟩)
theorem sc__law_pool : FnScope ["_law_script", "_law_seed", "_law_cell"] ["_law_script"] (defScope s__law_pool) := ⟨rfl, rfl, rfl, by decide +kernel, rfl, by decide +kernel, by decide +kernel⟩
def sp__law_pool (K : PySem.W.Frag) : Sp := Sp1 fun a H Q => ∃ (t : Addr) (ns : List Int), a = .ref t ∧ SqL K H t (ns.map V.int) ∧ ns.length ≤ 63 ∧ ∀ H' p c, Same H H' → Pool H' p c → Q (.ref p) H'
theorem ok__law_pool (T : Blt mg) (D : DefAt K mg "_law_pool" s__law_pool ["_law_script"]) : Cal P w K mg base 1 "_law_pool" ["_law_script"] (sp__law_pool K) := by
  refine cal_of D sc__law_pool len1 fun f cdv A outer s H vs Q E hr h => ?_
  obtain ⟨_, rfl, t, ns, rfl, ht, n63, q⟩ := h
  have hcut : cutV (ns.map V.int) none (some 63) = ns.map V.int := by
    rw [show cutV (ns.map V.int) none (some 63) = (ns.map V.int).take 63 from cut_to (k := 63)]
    exact List.take_of_length_le (by rw [List.length_map]; exact n63)
  refine ⟨_, (pss_cons (ps_set (i := 1) sc__law_pool.nd rfl (.inl rfl) (pe_op op_add (pe_callB call_len_seq (by rfl) T.b_len (by decide +kernel) (pa_cons (pv 0) pa_nil)) pe_int))
    (pss_cons (ps_for PassesOwn.never rfl (pi_list (pe_slice sl_list (pv 0) po_none (po_some pe_int))) (pg_name (i := 2) sc__law_pool.nd rfl (.inl rfl))
    (pss_one (ps_set (i := 1) sc__law_pool.nd rfl (.inl rfl) (pe_op op_mod (pe_callTy call_int1 (by rfl) T.b_int (by decide +kernel) (pa_cons (pe_op op_add (pe_op op_add (pe_op op_mul (pv 1) pe_int) (pe_op op_mod (pe_callTy call_int1 (by rfl) T.b_int (by decide +kernel) (pa_cons (pv 2) pa_nil)) pe_int)) pe_int) pa_nil)) pe_int))))
    (pss_one (ps_ret (pe_lst (pa_cons (pv 1) (pa_cons pe_int (pa_cons (pe_lc (own := [("_law_cell", 2)]) (g := (gName 2)) rfl sc__law_pool.nd (pi_list (pe_slice sl_list (pv 0) po_none (po_some pe_int))) (blkOk_by (own := [("_law_cell", 2)]) (N := ["_law_script", "_law_seed", "_law_cell"]) (sc := defScope s__law_pool) (by decide +kernel)) (fun _ _ _ _ _ => (pg_name (i := 2) sc__law_pool.nd rfl (.inl rfl))) (fun _ _ _ _ _ => (pts_one (pt_cmpR op_ge (pe_callB call_abs (by rfl) T.b_abs (by decide +kernel) (pa_cons (pv 2) pa_nil)) (pe_op op_pow pe_int pe_int) (nomark _)))) (fun _ _ _ _ _ => (pe_callB call_abs (by rfl) T.b_abs (by decide +kernel) (pa_cons (pv 2) pa_nil)))) pa_nil)))))))), ?_⟩
  refine ⟨_, rfl, t, _, rfl, .inl ht, _, _, rfl, rfl, ?_⟩
  refine ⟨_, rfl, 63, rfl, t, _, rfl, ht, fun L hL => ?_⟩
  rw [hcut]
  have e1 : Same H (upd H L (.lst (ns.map V.int))) := same_new hL
  have hL1 : (upd H L (.lst (ns.map V.int))) L = some (.lst (ns.map V.int)) := upd_same
  generalize upd H L (.lst (ns.map V.int)) = H1 at e1 hL1
  refine ⟨L, rfl, ⟨_, SqL.of hL1⟩, for_list (xs := ns.map V.int) (fun i σ H2 => H2 = H1 ∧ ∃ sd z, σ = [some (.ref t), some (.int sd), z]) ⟨rfl, _, none, rfl⟩ (fun i σ H2 _ z => by rw [z.1]; exact SqL.of hL1) (fun i x σ H2 hx z => ?_) (fun σ H2 z => ?_)⟩
  · obtain ⟨rfl, sd, z, rfl⟩ := z
    rw [List.getElem?_map] at hx
    cases hu : ns[i]? with
    | none =>
      rw [hu] at hx
      cases hx
    | some n =>
      rw [hu] at hx
      cases hx
      exact ⟨_, rfl, _, _, rfl, rfl, .inr ⟨by omega, by omega⟩, _, rfl, .inl ⟨_, rfl, _, _, rfl, rfl, (by show (0 : Int) < 2147483629; decide), _, _, rfl, rfl, _, _, rfl, rfl, .inl ⟨_, rfl, _, _, rfl, rfl, (by show (0 : Int) < 2147483647; decide), rfl, _, _, rfl⟩⟩⟩
  · obtain ⟨rfl, sd, z, rfl⟩ := z
    refine ⟨_, rfl, _, rfl, 63, rfl, t, _, rfl, e1.seq ht, fun L2 hL2 => ?_⟩
    rw [hcut]
    have e2 : Same H2 (upd H2 L2 (.lst (ns.map V.int))) := same_new hL2
    have h2 : (upd H2 L2 (.lst (ns.map V.int))) L2 = some (.lst (ns.map V.int)) := upd_same
    generalize upd H2 L2 (.lst (ns.map V.int)) = H3 at e2 h2
    refine ⟨L2, rfl, ⟨_, SqL.of h2⟩, fun c hc => ?_⟩
    refine lc_list (xs := ns.map V.int) (fun i H4 => Same H3 H4 ∧ ∃ ms : List Int, H4 c = some (.lst (ms.map V.int)) ∧ ms.length ≤ i) ⟨same_new hc, [], upd_same, Nat.le_refl _⟩ (fun i H4 _ z => SqL.of (z.1 _ _ h2)) (fun i x H4 hx z => ?_) (fun H4 z => ?_)
    · obtain ⟨z1, ms, z2, z3⟩ := z
      rw [List.getElem?_map] at hx
      cases hu : ns[i]? with
      | none =>
        rw [hu] at hx
        cases hx
      | some n =>
        rw [hu] at hx
        cases hx
        have hi := (List.getElem?_eq_some_iff.mp hu).1
        refine ⟨rfl, _, rfl, n, rfl, _, _, rfl, rfl, ⟨by decide, by decide, by decide⟩, _, _, rfl, rfl, _, rfl, ?_⟩
        refine ite2 (fun _ => ?_) (fun _ => ?_)
        · refine ⟨_, rfl, n, rfl, _, z2, z_lt (by rw [List.length_map]; omega), same_mut z1 hc, ms ++ [if n < 0 then -n else n], ?_, ?_⟩
          · rw [upd_same, List.map_append]
            rfl
          · rw [List.length_append, List.length_singleton]
            omega
        · exact ⟨z1, ms, z2, by omega⟩
    · obtain ⟨z1, ms, z2, z3⟩ := z
      rw [List.length_map] at z3
      refine ⟨(by show 3 ≤ sizeLine; decide), fun p hp => ?_⟩
      have e5 := same_new (o := .lst [.int sd, .int 0, .ref c]) hp
      have hpc : p ≠ c := fun z => by
        rw [z, z2] at hp
        cases hp
      exact q _ p c (((e1.trans e2).trans z1).trans e5) ⟨⟨sd, 0, ms, upd_same, e5 _ _ z2, by omega⟩, hpc⟩
end
end K30
set_option Elab.async false
set_option linter.all false
set_option maxRecDepth 100000
set_option maxHeartbeats 4000000
namespace K30
open PySem PySem.Spec PyProof.Rows L2
section
variable {P : Program} {w : World} {K : PySem.W.Frag} {mg : Str → Option Value} {base : Heap}
theorem ix_n {n : Nat} {d : Int} (h0 : 0 ≤ d) (h : d < n) : ixN n d = some d.toNat := by
  unfold ixN
  rw [if_pos h0, if_pos h]
theorem set_sea : ∀ {ss : List Fr} {k : Nat} {c : Int}, (∀ s ∈ ss, 0 < s.1) → ((ss.set k (0, c)).filter fun s => decide (s.1 = 0)).length ≤ 1
  | [], _, _, _ => by simp
  | a :: r, 0, c, h => by
    have h1 : r.filter (fun s => decide (s.1 = 0)) = [] := by
      refine List.filter_eq_nil_iff.mpr fun s hs z => ?_
      have := h s (List.mem_cons_of_mem _ hs)
      have z2 := of_decide_eq_true z
      omega
    rw [List.set_cons_zero, List.filter_cons, h1]
    split <;> simp
  | a :: r, k + 1, c, h => by
    have h1 := h a (List.mem_cons_self ..)
    rw [List.set_cons_succ, List.filter_cons, if_neg (by simp; omega)]
    exact set_sea fun s hs => h s (List.mem_cons_of_mem _ hs)
theorem set_land {ss : List Fr} {k : Nat} {c : Fr} (h : ∀ s ∈ ss, 0 < s.1) (hl : 2 ≤ ss.length) : ∃ s ∈ ss.set k c, 0 < s.1 := by
  by_cases hk : k = 0
  · refine ⟨ss[1], List.mem_of_getElem? (i := 1) ?_, h _ (List.getElem_mem _)⟩
    rw [List.getElem?_set_ne (by omega), List.getElem?_eq_getElem (by omega)]
  · refine ⟨ss[0], List.mem_of_getElem? (i := 0) ?_, h _ (List.getElem_mem _)⟩
    rw [List.getElem?_set_ne (by omega), List.getElem?_eq_getElem (by omega)]
theorem pr_set {α β : Type} {R : α → β → Prop} {v : α} {x : β} (h : R v x) : ∀ {vs : List α} {xs : List β} (i : Nat), Paired R vs xs → Paired R (vs.set i v) (xs.set i x)
  | _, _, _, .nil => .nil
  | _, _, 0, .cons _ t => .cons h t
  | _, _, i + 1, .cons r t => .cons r (pr_set h i t)
theorem in_w {i : Nat} {x : V} (h : ([.int 1, .int 1, .int 2, .int 2, .int 3, .int 4, .int 5, .int 6, .int 12] : List V)[i]? = some x) : ∃ w : Int, x = .int w ∧ w ∈ Wd ∧ 0 < w := by
  have h1 := List.mem_of_getElem? h
  simp only [List.mem_cons, List.not_mem_nil, or_false] at h1
  rcases h1 with rfl | rfl | rfl | rfl | rfl | rfl | rfl | rfl | rfl
  all_goals exact ⟨_, rfl, by decide, by decide⟩
theorem at_3 {d : Int} (h0 : 0 ≤ d) (h : d < 3) : ∃ m : Int, atI ([.int 2, .int 3, .int 6] : List V) d = some (.int m) ∧ 1 ≤ m ∧ m ≤ 6 := by
  rcases (by omega : d = 0 ∨ d = 1 ∨ d = 2) with rfl | rfl | rfl
  · exact ⟨2, rfl, by decide, by decide⟩
  · exact ⟨3, rfl, by decide, by decide⟩
  · exact ⟨6, rfl, by decide, by decide⟩
theorem at_5 {d : Int} (h0 : 0 ≤ d) (h : d < 5) : ∃ m : Int, atI ([.int 1, .int 2, .int 0, .int 3, .int 1] : List V) d = some (.int m) ∧ 0 ≤ m ∧ m ≤ 3 := by
  rcases (by omega : d = 0 ∨ d = 1 ∨ d = 2 ∨ d = 3 ∨ d = 4) with rfl | rfl | rfl | rfl | rfl
  · exact ⟨1, rfl, by decide, by decide⟩
  · exact ⟨2, rfl, by decide, by decide⟩
  · exact ⟨0, rfl, by decide, by decide⟩
  · exact ⟨3, rfl, by decide, by decide⟩
  · exact ⟨1, rfl, by decide, by decide⟩
theorem sc__law_sorts : FnScope ["_law_pool_here", "_law_found", "_law_k", "_law_width"] ["_law_pool_here"] (defScope s__law_sorts) := ⟨rfl, rfl, rfl, by decide +kernel, rfl, by decide +kernel, by decide +kernel⟩
def sp__law_sorts : Sp := Sp1 fun a H Q => ∃ p c : Addr, a = .ref p ∧ Pool H p c ∧ ∀ H' v (ss : List Fr), Dr p c H H' → LsV H' v ss → SortsOk ss → (∃ s ∈ ss, 0 < s.1) → Q v H'
theorem ok__law_sorts (T : Blt mg) (D : DefAt K mg "_law_sorts" s__law_sorts ["_law_pool_here"]) (c__law_draw : Cal P w K mg base 1 "_law_draw" ["_law_pool_here", "_law_many"] sp__law_draw) (c__law_some : Cal P w K mg base 2 "_law_some" ["_law_pool_here", "_law_things"] sp__law_some) : Cal P w K mg base 3 "_law_sorts" ["_law_pool_here"] sp__law_sorts := by
  refine cal_of D sc__law_sorts len1 fun f cdv A outer s H vs Q E hr h => ?_
  obtain ⟨_, rfl, p, c, rfl, PO, q⟩ := h
  refine ⟨_, (pss_cons (ps_set (i := 1) sc__law_sorts.nd rfl (.inl rfl) (pe_lst pa_nil))
    (pss_cons (ps_for PassesOwn.never rfl (pi_range1 (by rfl) T.b_range (pa_cons (pe_op op_add pe_int (pe_cal c__law_draw hr (by decide) (by rfl) (pa_cons (pv 0) (pa_cons pe_int pa_nil)))) pa_nil)) (pg_name (i := 2) sc__law_sorts.nd rfl (.inl rfl))
    (pss_cons (ps_set (i := 3) sc__law_sorts.nd rfl (.inl rfl) (pe_cal c__law_some hr (by decide) (by rfl) (pa_cons (pv 0) (pa_cons (pe_lst (pa_cons pe_int (pa_cons pe_int (pa_cons pe_int (pa_cons pe_int (pa_cons pe_int (pa_cons pe_int (pa_cons pe_int (pa_cons pe_int (pa_cons pe_int pa_nil)))))))))) pa_nil))))
    (pss_one (ps_expr (pe_bm PySem.F.plainAttrs_list PySem.F.slot_list_append PySem.F.type_list_append mt_append (pv 1) (pa_cons (pe_tup (pa_cons (pv 3) (pa_cons (pe_op op_add pe_int (pe_cal c__law_draw hr (by decide) (by rfl) (pa_cons (pv 0) (pa_cons (pe_ix ix_list (pe_lst (pa_cons pe_int (pa_cons pe_int (pa_cons pe_int pa_nil)))) (pe_cal c__law_draw hr (by decide) (by rfl) (pa_cons (pv 0) (pa_cons pe_int pa_nil))) (fun _ _ => rfl)) pa_nil)))) pa_nil))) pa_nil))))))
    (Evl.pss_cut (ps_if (PW.pt (pw_and (pt_cmpR op_gt (pe_callB call_len_seq (by rfl) T.b_len (by decide +kernel) (pa_cons (pv 1) pa_nil)) pe_int (nomark _)) (pw_and1 (pt_cmpR op_eq (pe_cal c__law_draw hr (by decide) (by rfl) (pa_cons (pv 0) (pa_cons pe_int pa_nil))) pe_int (nomark _)))))
    (pss_one (ps_asg (pe_tup (pa_cons pe_int (pa_cons (pe_op op_add pe_int (pe_cal c__law_draw hr (by decide) (by rfl) (pa_cons (pv 0) (pa_cons pe_int pa_nil)))) pa_nil))) (pg_sub (pv 1) (pe_cal c__law_draw hr (by decide) (by rfl) (pa_cons (pv 0) (pa_cons (pe_callB call_len_seq (by rfl) T.b_len (by decide +kernel) (pa_cons (pv 1) pa_nil)) pa_nil))) set_list)))
    pss_nil)
    (pss_one (ps_ret (pe_callTy call_tuple_of (by rfl) T.b_tuple (by decide +kernel) (pa_cons (pv 1) pa_nil))))))), ?_⟩
  refine ⟨Nat.zero_le _, fun L hL => ?_⟩
  obtain ⟨Lp, Lc⟩ := PO.fresh hL
  have d1 : Dr p c H (upd H L (.lst [])) := Dr.of PO (same_new hL)
  have hL1 : (upd H L (.lst [])) L = some (.lst []) := upd_same
  generalize upd H L (.lst []) = H1 at d1 hL1
  refine ⟨_, rfl, _, _, rfl, p, c, 4, rfl, rfl, d1.po, by omega, by omega, fun H2 d h1 h2 dr2 => ⟨_, _, rfl, rfl, _, rfl, by omega, by omega, ?_⟩⟩
  have d2 := d1.trans dr2
  have hL2 := dr2.k _ _ Lp Lc hL1
  refine for_range (fun i σ H3 => Dr p c H H3 ∧ (∃ ys ss, H3 L = some (.lst ys) ∧ Paired (FrV H3) ys ss ∧ ss.length = i ∧ ∀ s ∈ ss, SortOk s ∧ 0 < s.1) ∧ ∃ y2 y3, σ = [some (.ref p), some (.ref L), y2, y3]) ⟨d2, ⟨[], [], hL2, .nil, rfl, fun s z => by simp at z⟩, none, none, rfl⟩ (fun i σ H3 hi z => ?_) (fun σ H3 z => ?_)
  · obtain ⟨d3, ⟨ys, ss, a1, a2, a3, a4⟩, y2, y3, rfl⟩ := z
    have ylen := pr_len a2
    refine ⟨_, rfl, (by show 9 ≤ sizeLine; decide), fun w hw => ?_⟩
    have f4 := d3.po.fresh hw
    have e4 : Same H3 (upd H3 w (.lst [.int 1, .int 1, .int 2, .int 2, .int 3, .int 4, .int 5, .int 6, .int 12])) := same_new hw
    refine ⟨_, _, rfl, p, c, w, _, rfl, rfl, d3.po.up e4, .inl ⟨upd_same, f4.1, f4.2⟩, (by show 1 ≤ 9; omega), (by show 9 ≤ 1000; omega), fun H5 n x hx dr5 => ?_⟩
    obtain ⟨wd, rfl, w1, w2⟩ := in_w hx
    have d5 := (d3.same e4).trans dr5
    have hL5 := dr5.k _ _ Lp Lc (e4 _ _ a1)
    have t35 : TS H3 H5 := (sts e4).trans dr5.t
    -- found.append
    refine ⟨_, rfl, .inl ⟨rfl, _, SqL.of hL5⟩, _, rfl, _, rfl, (by show 3 ≤ sizeLine; decide), fun w2' hw2 => ?_⟩
    have f6 := d5.po.fresh hw2
    have e6 : Same H5 (upd H5 w2' (.lst [.int 2, .int 3, .int 6])) := same_new hw2
    have hw6 : (upd H5 w2' (.lst [.int 2, .int 3, .int 6])) w2' = some (.lst [.int 2, .int 3, .int 6]) := upd_same
    generalize upd H5 w2' (.lst [.int 2, .int 3, .int 6]) = H6 at e6 hw6
    refine ⟨_, rfl, _, _, rfl, p, c, 3, rfl, rfl, d5.po.up e6, by omega, by omega, fun H7 d7 g1 g2 dr7 => ?_⟩
    obtain ⟨m, gm, m1, m2⟩ := at_3 g1 g2
    refine ⟨w2', _, _, _, rfl, rfl, SqL.of (dr7.k _ _ f6.1 f6.2 hw6), gm, _, _, rfl, p, c, m, rfl, rfl, dr7.po, m1, by omega, fun H8 d8 g3 g4 dr8 => ⟨_, _, rfl, rfl, (by show 2 ≤ sizeLine; decide), fun t ht => ?_⟩⟩
    have d58 : Dr p c H5 H8 := ((Dr.of d5.po e6).trans dr7).trans dr8
    have hL8 := d58.k _ _ Lp Lc hL5
    have e9 : Same H8 (upd H8 t (.tup [.int wd, .int (1 + d8)])) := same_new ht
    have ht9 : (upd H8 t (.tup [.int wd, .int (1 + d8)])) t = some (.tup [.int wd, .int (1 + d8)]) := upd_same
    have d9 := (d5.trans d58).same e9
    have hL9 := e9 _ _ hL8
    have t39 : TS H3 (upd H8 t (.tup [.int wd, .int (1 + d8)])) := (t35.trans d58.t).trans (sts e9)
    have i4 : i < 4 := by omega
    refine ⟨L, ys, .ref t, rfl, rfl, hL9, z_lt (by omega), ?_⟩
    have tl := ts_upd (o := .lst (ys ++ [.ref t])) hL9
    refine ⟨d9.mut hL hL9 Lp Lc, ⟨ys ++ [.ref t], ss ++ [(wd, 1 + d8)], upd_same, pr_app (L2.Paired.mapP a2 fun _ _ z => z.up (t39.trans tl)) (pr_one (FrV.up tl ⟨t, rfl, ht9⟩)), by rw [List.length_append, List.length_singleton, a3], fun s hs => ?_⟩, _, _, rfl⟩
    rcases List.mem_append.mp hs with hs | hs
    · exact a4 s hs
    · rw [List.mem_singleton] at hs
      subst hs
      exact ⟨⟨w1, by show 1 ≤ 1 + d8; omega, by show 1 + d8 ≤ 6; omega⟩, w2⟩
  · obtain ⟨d3, ⟨ys, ss, a1, a2, a3, a4⟩, y2, y3, rfl⟩ := z
    have ylen := pr_len a2
    have sl : 1 ≤ ss.length ∧ ss.length ≤ 4 := by omega
    have nosea : (ss.filter fun s => decide (s.1 = 0)).length ≤ 1 := by
      rw [List.filter_eq_nil_iff.mpr fun s hs z => by have := (a4 s hs).2; have z2 := of_decide_eq_true z; omega]
      simp
    have land : ∃ s ∈ ss, 0 < s.1 := ⟨ss[0], List.getElem_mem _, (a4 _ (List.getElem_mem _)).2⟩
    refine ⟨fun σ H4 => Dr p c H H4 ∧ (∃ ys ss, H4 L = some (.lst ys) ∧ Paired (FrV H4) ys ss ∧ SortsOk ss ∧ ∃ s ∈ ss, 0 < s.1) ∧ ∃ y2 y3, σ = [some (.ref p), some (.ref L), y2, y3], ?_, fun σ H4 z => ?_⟩
    · refine ⟨_, rfl, L, _, rfl, .inl (SqL.of a1), _, _, rfl, rfl, _, rfl, ?_⟩
      by_cases h0 : (1 : Int) < ys.length
      · refine iteD h0 ?_
        refine ⟨_, rfl, _, _, rfl, p, c, 3, rfl, rfl, d3.po, by omega, by omega, fun H5 d5 g1 g2 dr5 => ⟨rfl, _, rfl, ?_⟩⟩
        have d35 := d3.trans dr5
        have hL5 := dr5.k _ _ Lp Lc a1
        by_cases h3 : d5 = 0
        · refine iteD (congrArg V.int h3) ?_
          refine ⟨_, rfl, _, _, rfl, p, c, 6, rfl, rfl, d35.po, by omega, by omega, fun H6 d6 g3 g4 dr6 => ⟨_, _, rfl, rfl, (by show 2 ≤ sizeLine; decide), fun t ht => ?_⟩⟩
          have hL6 := dr6.k _ _ Lp Lc hL5
          have e7 : Same H6 (upd H6 t (.tup [.int 0, .int (1 + d6)])) := same_new ht
          have ht7 : (upd H6 t (.tup [.int 0, .int (1 + d6)])) t = some (.tup [.int 0, .int (1 + d6)]) := upd_same
          have d7 := (d35.trans dr6).same e7
          have hL7 := e7 _ _ hL6
          have t37 : TS H3 (upd H6 t (.tup [.int 0, .int (1 + d6)])) := (dr5.t.trans dr6.t).trans (sts e7)
          generalize upd H6 t (.tup [.int 0, .int (1 + d6)]) = H7 at e7 ht7 d7 hL7 t37
          refine ⟨_, rfl, _, rfl, _, rfl, L, _, rfl, .inl (SqL.of hL7), _, _, rfl, p, c, _, rfl, rfl, d7.po, by omega, by omega, fun H8 d8 g5 g6 dr8 => ?_⟩
          have hL8 := dr8.k _ _ Lp Lc hL7
          refine ⟨L, ys, d8, d8.toNat, rfl, rfl, hL8, ix_n g5 g6, ?_⟩
          have tl := ts_upd (o := .lst (ys.set d8.toNat (.ref t))) hL8
          refine ⟨(d7.trans dr8).mut hL hL8 Lp Lc, ⟨_, ss.set d8.toNat (0, 1 + d6), upd_same, pr_set (FrV.up (dr8.t.trans tl) ⟨t, rfl, ht7⟩) _ (L2.Paired.mapP a2 fun _ _ z => z.up ((t37.trans dr8.t).trans tl)), ⟨by rw [List.length_set]; omega, by rw [List.length_set]; omega, fun s hs => ?_, set_sea fun s hs => (a4 s hs).2⟩, set_land (fun s hs => (a4 s hs).2) (by omega)⟩, _, _, rfl⟩
          rcases List.mem_or_eq_of_mem_set hs with hs | rfl
          · exact (a4 s hs).1
          · exact ⟨by show (0 : Int) ∈ Wd; decide, by show 1 ≤ 1 + d6; omega, by show 1 + d6 ≤ 6; omega⟩
        · refine iteND (fun z => h3 (V.int.inj z)) ?_
          exact ⟨d35, ⟨ys, ss, hL5, L2.Paired.mapP a2 fun _ _ z => z.up dr5.t, ⟨sl.1, sl.2, fun s hs => (a4 s hs).1, nosea⟩, land⟩, _, _, rfl⟩
      · refine iteND h0 ?_
        exact ⟨d3, ⟨ys, ss, a1, a2, ⟨sl.1, sl.2, fun s hs => (a4 s hs).1, nosea⟩, land⟩, _, _, rfl⟩
    · obtain ⟨d4, ⟨ys, ss, a1, a2, a3, a4⟩, y2, y3, rfl⟩ := z
      refine ⟨_, rfl, L, ys, rfl, .inl ⟨SqL.of a1, fun t ht => ?_⟩⟩
      have e5 := same_new (o := .tup ys) ht
      exact q _ _ ss (d4.same e5) ⟨t, ys, rfl, upd_same, L2.Paired.mapP a2 fun _ _ z => z.up (sts e5)⟩ a3 a4
end
end K30
set_option Elab.async false
set_option linter.all false
set_option maxRecDepth 100000
set_option maxHeartbeats 4000000
namespace K30
open PySem PySem.Spec PyProof.Rows L2
section
variable {P : Program} {w : World} {K : PySem.W.Frag} {mg : Str → Option Value} {base : Heap}
/-- a list of thresholds that grows -/
def LF (H : Hp) (L : Addr) (n : Nat) : Prop := ∃ ys l, H L = some (.lst ys) ∧ Paired (FrV H) ys l ∧ l.length = n ∧ ∀ q ∈ l, FrOk q ∧ q.1 ≤ 13000
theorem LF.same {H H' : Hp} {L : Addr} {n : Nat} (h : LF H L n) (e : Same H H') : LF H' L n := by
  obtain ⟨ys, l, h1, h2, h3, h4⟩ := h
  exact ⟨ys, l, e _ _ h1, L2.Paired.mapP h2 fun _ _ z => z.up (sts e), h3, h4⟩
theorem LF.dr {p c : Addr} {H H' : Hp} {L : Addr} {n : Nat} (h : LF H L n) (d : Dr p c H H') (n1 : L ≠ p) (n2 : L ≠ c) : LF H' L n := by
  obtain ⟨ys, l, h1, h2, h3, h4⟩ := h
  exact ⟨ys, l, d.k _ _ n1 n2 h1, L2.Paired.mapP h2 fun _ _ z => z.up d.t, h3, h4⟩
/-- a threshold is put to it -/
theorem LF.add {H : Hp} {L : Addr} {n : Nat} {ys : List V} {l : List Fr} {v : V} {x : Fr} (h1 : H L = some (.lst ys)) (h2 : Paired (FrV H) ys l) (h3 : l.length = n) (h4 : ∀ q ∈ l, FrOk q ∧ q.1 ≤ 13000) (hv : FrV H v x) (hx : FrOk x ∧ x.1 ≤ 13000) : LF (upd H L (.lst (ys ++ [v]))) L (n + 1) := by
  have t := ts_upd (o := .lst (ys ++ [v])) h1
  refine ⟨ys ++ [v], l ++ [x], upd_same, L2.Paired.mapP (pr_app h2 (pr_one hv)) fun _ _ z => z.up t, by rw [List.length_append, List.length_singleton, h3], fun q hq => ?_⟩
  rcases List.mem_append.mp hq with hq | hq
  · exact h4 q hq
  · rw [List.mem_singleton] at hq
    subst hq
    exact hx
theorem low_ok {i j : Int} (i1 : 1 ≤ i) (i2 : i ≤ 13000) (j1 : 1 ≤ j) (j2 : j ≤ 144) : FrOk (lowI i j) ∧ (lowI i j).1 ≤ 13000 := by
  have a := lowI_1 j1 i1
  have b := lowI_2 (i := i) j1
  exact ⟨⟨a.1, by omega, b.1, by omega, lowI_gcd j1⟩, by omega⟩
theorem top_le {i : Nat} {r : Int} (hi : i < 6) (h0 : 0 ≤ r) (h1 : r ≤ 720) : 0 ≤ (1 + (i : Int)) * r ∧ (1 + (i : Int)) * r ≤ 4320 := by
  have a : 0 ≤ (1 + (i : Int)) * r := Int.mul_nonneg (by omega) h0
  have b : (1 + (i : Int)) * r ≤ 6 * r := Int.mul_le_mul_of_nonneg_right (by omega) h0
  omega
theorem sc__law_list : FnScope ["_law_pool_here", "_law_sorts_here", "_law_pair", "_law_grains_here", "_law_space", "_law_slip", "_law_found", "_law_many", "_law_top", "_law_bottom", "_law_step"] ["_law_pool_here", "_law_sorts_here", "_law_pair"] (defScope s__law_list) := ⟨rfl, rfl, rfl, by decide +kernel, rfl, by decide +kernel, by decide +kernel⟩
def sp__law_list : Sp := Sp3 fun a b e H Q => ∃ (p c : Addr) (ss : List Fr) (j : Fr), a = .ref p ∧ Pool H p c ∧ LsV H b ss ∧ FrV H e j ∧ SortsOk ss ∧ JoinOk ss j ∧
  ∀ H' v (l : List Fr), Dr p c H H' → LsV H' v l → LsOk l → (∀ q ∈ l, q.1 ≤ 13000) → Q v H'
theorem ok__law_list (T : Blt mg) (D : DefAt K mg "_law_list" s__law_list ["_law_pool_here", "_law_sorts_here", "_law_pair"]) (c__law_draw : Cal P w K mg base 1 "_law_draw" ["_law_pool_here", "_law_many"] sp__law_draw)
    (c__law_pair_grains : Cal P w K mg base 3 "_law_pair_grains" ["_law_sorts_here", "_law_pair"] sp__law_pair_grains) (c__law_room : Cal P w K mg base 1 "_law_room" ["_law_sorts_here", "_law_pair", "_law_grains_here"] sp__law_room)
    (c__law_lowest : Cal P w K mg base 2 "_law_lowest" ["_law_top", "_law_bottom"] sp__law_lowest) (c__law_ascending : Cal P w K mg base 1 "_law_ascending" ["_law_steps"] sp__law_ascending) : Cal P w K mg base 4 "_law_list" ["_law_pool_here", "_law_sorts_here", "_law_pair"] sp__law_list := by
  refine cal_of D sc__law_list len3 fun f cdv A outer s H vs Q E hr h => ?_
  obtain ⟨_, vb, ve, rfl, p, c, ss, j, rfl, PO, hs, hj, okS, okj, q⟩ := h
  have gok := gP_ok okS okj
  have rok := rP_le okS okj
  refine ⟨_, (pss_cons (ps_set (i := 3) sc__law_list.nd rfl (.inl rfl) (pe_cal c__law_pair_grains hr (by decide) (by rfl) (pa_cons (pv 1) (pa_cons (pv 2) pa_nil))))
    (pss_cons (ps_set (i := 4) sc__law_list.nd rfl (.inl rfl) (pe_cal c__law_room hr (by decide) (by rfl) (pa_cons (pv 1) (pa_cons (pv 2) (pa_cons (pv 3) pa_nil)))))
    (pss_cons (ps_set (i := 5) sc__law_list.nd rfl (.inl rfl) (pe_cal c__law_draw hr (by decide) (by rfl) (pa_cons (pv 0) (pa_cons pe_int pa_nil))))
    (pss_cons (ps_set (i := 6) sc__law_list.nd rfl (.inl rfl) (pe_lst pa_nil))
    (pss_cons (ps_for PassesOwn.never rfl (pi_range2 (by rfl) T.b_range (pa_cons pe_int (pa_cons (pe_op op_add pe_int (pe_cal c__law_draw hr (by decide) (by rfl) (pa_cons (pv 0) (pa_cons (pe_ix ix_list (pe_lst (pa_cons pe_int (pa_cons pe_int (pa_cons pe_int pa_nil)))) (pe_cal c__law_draw hr (by decide) (by rfl) (pa_cons (pv 0) (pa_cons pe_int pa_nil))) (fun _ _ => rfl)) pa_nil)))) pa_nil))) (pg_name (i := 7) sc__law_list.nd rfl (.inl rfl))
    (pss_cons (ps_set (i := 8) sc__law_list.nd rfl (.inl rfl) (pe_op op_add (pe_op op_add (pe_op op_mul (pv 7) (pv 4)) (pe_ix ix_list (pe_lst (pa_cons pe_int (pa_cons pe_int (pa_cons pe_int (pa_cons pe_int (pa_cons pe_int pa_nil)))))) (pv 5) (fun _ _ => rfl))) (pe_cal c__law_draw hr (by decide) (by rfl) (pa_cons (pv 0) (pa_cons pe_int pa_nil)))))
    (Evl.pss_cut (ps_if (pt_cmpR op_eq (pe_cal c__law_draw hr (by decide) (by rfl) (pa_cons (pv 0) (pa_cons pe_int pa_nil))) pe_int (nomark _))
    (pss_one (ps_set (i := 8) sc__law_list.nd rfl (.inl rfl) (pe_op op_sub (pe_op op_sub (pv 8) pe_int) (pe_cal c__law_draw hr (by decide) (by rfl) (pa_cons (pv 0) (pa_cons pe_int pa_nil))))))
    pss_nil)
    (pss_cons (ps_set (i := 9) sc__law_list.nd rfl (.inl rfl) (pe_op op_mul pe_int (pv 3)))
    (Evl.pss_cut (ps_if (PW.pt (pw_and (pt_cmpR op_eq (pe_cal c__law_draw hr (by decide) (by rfl) (pa_cons (pv 0) (pa_cons pe_int pa_nil))) pe_int (nomark _)) (pw_and1 (pt_cmpR op_le (pv 9) pe_int (nomark _)))))
    (pss_one (ps_par (i := 8) (j := 9) (by rfl) sc__law_list.nd rfl rfl (by decide) rfl rfl (pa_cons (pe_op op_sub (pe_op op_mul pe_int (pv 8)) pe_int) (pa_cons (pe_op op_mul pe_int (pv 9)) pa_nil)) (by rfl)))
    pss_nil)
    (pss_one (ps_expr (pe_bm PySem.F.plainAttrs_list PySem.F.slot_list_append PySem.F.type_list_append mt_append (pv 6) (pa_cons (pe_cal c__law_lowest hr (by decide) (by rfl) (pa_cons (pe_callB (call_max2 rfl) (by rfl) T.b_max (by decide +kernel) (pa_cons pe_int (pa_cons (pv 8) pa_nil))) (pa_cons (pv 9) pa_nil))) pa_nil)))))))))
    (Evl.pss_cut (ps_if (pt_cmpR op_eq (pe_cal c__law_draw hr (by decide) (by rfl) (pa_cons (pv 0) (pa_cons pe_int pa_nil))) pe_int (nomark _))
    (pss_one (ps_setLc (i := 6) (own := [("_law_step", 10)]) (g := (gName 10)) (tt := tYes) (by rfl) sc__law_list.nd rfl rfl (sw_true rfl rfl rfl (by decide +kernel)) (pi_list (pv 6)) (blkOk_by (own := [("_law_step", 10)]) (N := ["_law_pool_here", "_law_sorts_here", "_law_pair", "_law_grains_here", "_law_space", "_law_slip", "_law_found", "_law_many", "_law_top", "_law_bottom", "_law_step"]) (sc := defScope s__law_list) (by decide +kernel)) (fun _ _ _ _ _ => (pg_name (i := 10) sc__law_list.nd rfl (.inl rfl))) (fun _ _ _ _ _ => pts_nil) (fun _ _ _ _ _ => (pe_cal c__law_lowest hr (by decide) (by rfl) (pa_cons (pe_op op_add pe_int (pe_cal c__law_draw hr (by decide) (by rfl) (pa_cons (pv 0) (pa_cons pe_int pa_nil)))) (pa_cons (pe_op op_add pe_int (pe_cal c__law_draw hr (by decide) (by rfl) (pa_cons (pv 0) (pa_cons pe_int pa_nil)))) pa_nil))))))
    pss_nil)
    (pss_one (ps_ret (pe_cal c__law_ascending hr (by decide) (by rfl) (pa_cons (pv 6) pa_nil)))))))))), ?_⟩
  refine ⟨_, rfl, _, rfl, _, _, rfl, ss, j, hs, hj, okS, okj, ?_⟩
  refine ⟨_, rfl, _, rfl, _, rfl, _, _, _, rfl, ss, j, hs, hj, rfl, okS, okj, ?_⟩
  refine ⟨_, rfl, _, _, rfl, p, c, 5, rfl, rfl, PO, by omega, by omega, fun H1 sl s1 s2 dr1 => ?_⟩
  generalize gP ss j = g at gok
  generalize rP ss j = r at rok
  refine ⟨Nat.zero_le _, fun L hL => ?_⟩
  obtain ⟨Lp, Lc⟩ := dr1.po.fresh hL
  have hL0 := dr1.free hL
  have d2 := dr1.same (same_new (o := .lst []) hL)
  have hL2 : LF (upd H1 L (.lst [])) L 0 := ⟨[], [], upd_same, .nil, rfl, fun _ z => by simp at z⟩
  generalize upd H1 L (.lst []) = H2 at d2 hL2
  have sg : ∀ (H' : Hp) (i : Nat) (y7 y8 y9 y10 : Option V), Dr p c H H' → LF H' L i → Dr p c H H' ∧ LF H' L i ∧ ∃ z7 z8 z9 z10 : Option V, ([some (.ref p), some vb, some ve, some (.int g), some (.int r), some (.int sl), some (.ref L), y7, y8, y9, y10] : L2.St) = [some (.ref p), some vb, some ve, some (.int g), some (.int r), some (.int sl), some (.ref L), z7, z8, z9, z10] :=
    fun H' i y7 y8 y9 y10 a b => ⟨a, b, y7, y8, y9, y10, rfl⟩
  -- range(1, 2 + ..)
  refine ⟨_, rfl, (by show 3 ≤ sizeLine; decide), fun w hw => ?_⟩
  have f3 := d2.po.fresh hw
  have e3 : Same H2 (upd H2 w (.lst [.int 2, .int 3, .int 6])) := same_new hw
  have hw3 : (upd H2 w (.lst [.int 2, .int 3, .int 6])) w = some (.lst [.int 2, .int 3, .int 6]) := upd_same
  have d3 := d2.same e3
  have hL3 := hL2.same e3
  generalize upd H2 w (.lst [.int 2, .int 3, .int 6]) = H3 at e3 hw3 d3 hL3
  refine ⟨_, rfl, _, _, rfl, p, c, 3, rfl, rfl, d3.po, by omega, by omega, fun H4 d4 g1 g2 dr4 => ?_⟩
  obtain ⟨m, gm, m1, m2⟩ := at_3 g1 g2
  refine ⟨w, _, _, _, rfl, rfl, SqL.of (dr4.k _ _ f3.1 f3.2 hw3), gm, _, _, rfl, p, c, m, rfl, rfl, dr4.po, m1, by omega, fun H5 d5 g3 g4 dr5 => ?_⟩
  have d5' := (d3.trans dr4).trans dr5
  have hL5 := (hL3.dr dr4 Lp Lc).dr dr5 Lp Lc
  refine ⟨_, _, rfl, rfl, _, _, rfl, ⟨by omega, by omega, by omega, by omega⟩, for_range (fun i σ H6 => Dr p c H H6 ∧ LF H6 L i ∧ ∃ y7 y8 y9 y10, σ = [some (.ref p), some vb, some ve, some (.int g), some (.int r), some (.int sl), some (.ref L), y7, y8, y9, y10]) (sg _ _ _ _ _ _ d5' hL5) (fun i σ H6 hi z => ?_) (fun σ H6 z => ?_)⟩
  · obtain ⟨d6, hL6, y7, y8, y9, y10, rfl⟩ := z
    have i6 : i < 6 := by omega
    obtain ⟨mx, g5, x1, x2⟩ := at_5 s1 s2
    have tl := top_le i6 rok.1 rok.2
    refine ⟨_, rfl, _, rfl, _, _, rfl, rfl, .inl ⟨by omega, by omega⟩, (by show 5 ≤ sizeLine; decide), fun w2 hw2 => ?_⟩
    have e7 : Same H6 (upd H6 w2 (.lst [.int 1, .int 2, .int 0, .int 3, .int 1])) := same_new hw2
    have hw7 : (upd H6 w2 (.lst [.int 1, .int 2, .int 0, .int 3, .int 1])) w2 = some (.lst [.int 1, .int 2, .int 0, .int 3, .int 1]) := upd_same
    have d7 := d6.same e7
    have hL7 := hL6.same e7
    generalize upd H6 w2 (.lst [.int 1, .int 2, .int 0, .int 3, .int 1]) = H7 at e7 hw7 d7 hL7
    refine ⟨_, rfl, w2, _, _, _, rfl, rfl, SqL.of hw7, g5, _, _, rfl, rfl, _, rfl, _, _, rfl, p, c, 3, rfl, rfl, d7.po, by omega, by omega, fun H8 d8 k1 k2 dr8 => ⟨_, _, rfl, rfl, ?_⟩⟩
    have d8' := d7.trans dr8
    have hL8 := hL7.dr dr8 Lp Lc
    -- a little less
    refine ⟨fun σ H9 => Dr p c H H9 ∧ LF H9 L i ∧ ∃ (tp : Int) (z9 z10 : Option V), -10 ≤ tp ∧ tp ≤ 4330 ∧ σ = [some (.ref p), some vb, some ve, some (.int g), some (.int r), some (.int sl), some (.ref L), some (.int (1 + (i : Int))), some (.int tp), z9, z10], ?_, fun σ H9 z => ?_⟩
    · refine ⟨_, rfl, _, _, rfl, p, c, 12, rfl, rfl, d8'.po, by omega, by omega, fun H9 d9 k3 k4 dr9 => ⟨rfl, _, rfl, ?_⟩⟩
      by_cases h0 : d9 = 0
      · refine iteD (congrArg V.int h0) ?_
        refine ⟨_, rfl, _, _, rfl, rfl, _, rfl, _, _, rfl, p, c, 2, rfl, rfl, dr9.po, by omega, by omega, fun H10 d10 k5 k6 dr10 => ⟨_, _, rfl, rfl, (d8'.trans dr9).trans dr10, (hL8.dr dr9 Lp Lc).dr dr10 Lp Lc, _, y9, y10, ?_, ?_, rfl⟩⟩
        · omega
        · omega
      · refine iteND (fun z => h0 (V.int.inj z)) ?_
        refine ⟨d8'.trans dr9, hL8.dr dr9 Lp Lc, _, y9, y10, ?_, ?_, rfl⟩
        · omega
        · omega
    · obtain ⟨d9, hL9, tp, z9, z10, t1, t2, rfl⟩ := z
      refine ⟨_, rfl, _, _, rfl, rfl, .inl ⟨by omega, by omega⟩, ?_⟩
      -- other bottoms
      refine ⟨fun σ H9 => Dr p c H H9 ∧ LF H9 L i ∧ ∃ (tp bt : Int) (z10 : Option V), tp ≤ 13000 ∧ 1 ≤ bt ∧ bt ≤ 144 ∧ σ = [some (.ref p), some vb, some ve, some (.int g), some (.int r), some (.int sl), some (.ref L), some (.int (1 + (i : Int))), some (.int tp), some (.int bt), z10], ?_, fun σ H10 z => ?_⟩
      · refine ⟨_, rfl, _, _, rfl, p, c, 4, rfl, rfl, d9.po, by omega, by omega, fun H10 d10 k3 k4 dr10 => ⟨rfl, _, rfl, ?_⟩⟩
        have d10' := d9.trans dr10
        have hL10 := hL9.dr dr10 Lp Lc
        by_cases h0 : d10 = 0
        · refine iteD (congrArg V.int h0) ?_
          refine ⟨_, rfl, _, _, rfl, rfl, _, rfl, ?_⟩
          by_cases h48 : 2 * g ≤ 48
          · refine iteD h48 ?_
            refine ⟨_, rfl, _, _, rfl, rfl, .inl ⟨by omega, by omega⟩, _, _, rfl, rfl, _, rfl, _, _, rfl, rfl, .inl ⟨by omega, by omega⟩, _, _, rfl, d10', hL10, _, _, z10, ?_, ?_, ?_, rfl⟩
            · omega
            · omega
            · omega
          · refine iteND h48 ?_
            refine ⟨d10', hL10, tp, 2 * g, z10, ?_, ?_, ?_, rfl⟩
            · omega
            · omega
            · omega
        · refine iteND (fun z => h0 (V.int.inj z)) ?_
          refine ⟨d10', hL10, tp, 2 * g, z10, ?_, ?_, ?_, rfl⟩
          · omega
          · omega
          · omega
      · obtain ⟨d10, hL10, tp, bt, z10, b1, b2, b3, rfl⟩ := z
        obtain ⟨ys, l, l1, l2, l3, l4⟩ := hL10
        have ylen := pr_len l2
        refine ⟨_, rfl, .inl ⟨rfl, _, SqL.of l1⟩, _, rfl, _, _, rfl, _, rfl, _, _, rfl, _, bt, rfl, rfl, b2, by omega, fun H11 v e11 hv => ?_⟩
        have hx := low_ok (i := if tp > 1 then tp else 1) (j := bt) (by split <;> omega) (by split <;> omega) b2 b3
        have l11 := e11 _ _ l1
        refine ⟨L, ys, v, rfl, rfl, l11, z_lt (by omega), ?_⟩
        exact sg _ _ _ _ _ _ ((d10.same e11).mut hL0 l11 Lp Lc) (LF.add l11 (L2.Paired.mapP l2 fun _ _ z => z.up (sts e11)) l3 l4 hv hx)
  · obtain ⟨d6, hL6, y7, y8, y9, y10, rfl⟩ := z
    have n1 : 1 ≤ (2 + d5 - 1).toNat ∧ (2 + d5 - 1).toNat ≤ 6 := by omega
    generalize (2 + d5 - 1).toNat = n at n1 hL6
    -- all anew
    refine ⟨fun σ H7 => Dr p c H H7 ∧ ∃ (M : Addr) (z7 z8 z9 z10 : Option V), LF H7 M n ∧ σ = [some (.ref p), some vb, some ve, some (.int g), some (.int r), some (.int sl), some (.ref M), z7, z8, z9, z10], ?_, fun σ H7 z => ?_⟩
    · refine ⟨_, rfl, _, _, rfl, p, c, 8, rfl, rfl, d6.po, by omega, by omega, fun H7 d7 k1 k2 dr7 => ⟨rfl, _, rfl, ?_⟩⟩
      have d7' := d6.trans dr7
      have hL7 := hL6.dr dr7 Lp Lc
      refine ite2 (fun _ => ?_) (fun _ => ?_)
      · obtain ⟨ys, l, l1, l2, l3, l4⟩ := id hL7
        have ylen := pr_len l2
        refine ⟨_, rfl, L, rfl, ⟨_, SqL.of l1⟩, fun M hM => ?_⟩
        obtain ⟨Mp, Mc⟩ := d7'.po.fresh hM
        have hM0 := d7'.free hM
        refine lc_list (xs := ys) (fun i H8 => Dr p c H H8 ∧ H8 L = some (.lst ys) ∧ LF H8 M i) ⟨d7'.same (same_new hM), same_new hM _ _ l1, [], [], upd_same, .nil, rfl, fun _ z => by simp at z⟩ (fun i H8 _ z => SqL.of z.2.1) (fun i x H8 hx z => ?_) (fun H8 z => ?_)
        · obtain ⟨z1, z2, z3⟩ := z
          have hi := (List.getElem?_eq_some_iff.mp hx).1
          refine ⟨rfl, _, rfl, _, _, rfl, p, c, 9, rfl, rfl, z1.po, by omega, by omega, fun H9 d9 k3 k4 dr9 => ⟨_, _, rfl, rfl, _, rfl, _, _, rfl, p, c, 4, rfl, rfl, dr9.po, by omega, by omega, fun H10 d10 k5 k6 dr10 => ⟨_, _, rfl, rfl, _, _, rfl, 1 + d9, 1 + d10, rfl, rfl, by omega, by omega, fun H11 v e11 hv => ?_⟩⟩⟩
          have d811 := (dr9.trans dr10).same e11
          obtain ⟨zs, l', q1, q2, q3, q4⟩ := z3.dr d811 Mp Mc
          have zlen := pr_len q2
          have LM : L ≠ M := ne_of_none l1 hM
          refine ⟨zs, q1, z_lt (by omega), (z1.trans d811).mut hM0 q1 Mp Mc, ?_, LF.add q1 q2 q3 q4 hv (low_ok (by omega) (by omega) (by omega) (by omega))⟩
          rw [upd_ne LM]
          exact d811.k _ _ Lp Lc z2
        · obtain ⟨z1, z2, z3⟩ := z
          have en : ys.length = n := by omega
          rw [en] at z3
          exact ⟨z1, M, _, _, _, _, z3, rfl⟩
      · exact ⟨d7', L, _, _, _, _, hL7, rfl⟩
    · obtain ⟨d7, M, z7, z8, z9, z10, ⟨ys, l, l1, l2, l3, l4⟩, rfl⟩ := z
      refine ⟨_, rfl, _, rfl, M, ys, l, rfl, .inl l1, l2, by omega, fun x hx => (l4 x hx).1, fun H8 v l' e8 hv hp hs => ?_⟩
      refine q _ _ l' (d7.same e8) hv ⟨by rw [hp.length_eq]; omega, by rw [hp.length_eq]; omega, fun x hx => (l4 x (hp.mem_iff.mp hx)).1, hs⟩ fun x hx => (l4 x (hp.mem_iff.mp hx)).2
end
end K30
set_option Elab.async false
set_option linter.all false
set_option maxRecDepth 100000
set_option maxHeartbeats 4000000
namespace K30
open PySem PySem.Spec PyProof.Rows L2
section
variable {P : Program} {w : World} {K : PySem.W.Frag} {mg : Str → Option Value} {base : Heap}
/-- kinds that grow -/
def KF (H : Hp) (M : Addr) (ss : List Fr) (n : Nat) : Prop := ∃ zs ks, H M = some (.lst zs) ∧ Paired (KdV H) zs ks ∧ ks.length = n ∧ ∀ k ∈ ks, KindOk ss k ∧ ∀ q ∈ k.1, q.1 ≤ 13000
theorem KF.same {H H' : Hp} {M : Addr} {ss : List Fr} {n : Nat} (h : KF H M ss n) (e : Same H H') : KF H' M ss n := by
  obtain ⟨ys, l, h1, h2, h3, h4⟩ := h
  exact ⟨ys, l, e _ _ h1, L2.Paired.mapP h2 fun _ _ z => z.up (sts e), h3, h4⟩
theorem KF.dr {p c : Addr} {H H' : Hp} {M : Addr} {ss : List Fr} {n : Nat} (h : KF H M ss n) (d : Dr p c H H') (n1 : M ≠ p) (n2 : M ≠ c) : KF H' M ss n := by
  obtain ⟨ys, l, h1, h2, h3, h4⟩ := h
  exact ⟨ys, l, d.k _ _ n1 n2 h1, L2.Paired.mapP h2 fun _ _ z => z.up d.t, h3, h4⟩
theorem KF.upd {H : Hp} {M J : Addr} {ss : List Fr} {n : Nat} {us us' : List V} (h : KF H M ss n) (hj : H J = some (.lst us)) (ne : M ≠ J) : KF (upd H J (.lst us')) M ss n := by
  obtain ⟨ys, l, h1, h2, h3, h4⟩ := h
  exact ⟨ys, l, by rw [upd_ne ne]; exact h1, L2.Paired.mapP h2 fun _ _ z => z.up (ts_upd hj), h3, h4⟩
theorem in_6 {i : Nat} {x : V} (h : ([.int 1, .int 1, .int 2, .int 2, .int 3, .int 0] : List V)[i]? = some x) : ∃ w : Int, x = .int w ∧ 0 ≤ w ∧ w ≤ 3 := by
  have h1 := List.mem_of_getElem? h
  simp only [List.mem_cons, List.not_mem_nil, or_false] at h1
  rcases h1 with rfl | rfl | rfl | rfl | rfl | rfl
  all_goals exact ⟨_, rfl, by decide, by decide⟩
theorem sc__law_parts_of_book : FnScope ["_law_pool_here", "_law_sorts_here", "_law_pairs_here", "_law_kinds", "_law_k", "_law_joins", "_law_pair"] ["_law_pool_here"] (defScope s__law_parts_of_book) := ⟨rfl, rfl, rfl, by decide +kernel, rfl, by decide +kernel, by decide +kernel⟩
def sp__law_parts_of_book : Sp := Sp1 fun a H Q => ∃ p c : Addr, a = .ref p ∧ Pool H p c ∧
  ∀ H' t v1 v2 (ss : List Fr) (ks : List Kd), Dr p c H H' → H' t = some (.tup [v1, v2]) → LsV H' v1 ss → KsV H' v2 ks → SortsOk ss → KindsOk ss ks → (∀ k ∈ ks, ∀ q ∈ k.1, q.1 ≤ 13000) → Q (.ref t) H'
theorem ok__law_parts_of_book (T : Blt mg) (D : DefAt K mg "_law_parts_of_book" s__law_parts_of_book ["_law_pool_here"]) (c__law_draw : Cal P w K mg base 1 "_law_draw" ["_law_pool_here", "_law_many"] sp__law_draw) (c__law_some : Cal P w K mg base 2 "_law_some" ["_law_pool_here", "_law_things"] sp__law_some)
    (c__law_sorts : Cal P w K mg base 3 "_law_sorts" ["_law_pool_here"] sp__law_sorts) (c__law_pairs : Cal P w K mg base 1 "_law_pairs" ["_law_sorts_here"] sp__law_pairs) (c__law_list : Cal P w K mg base 4 "_law_list" ["_law_pool_here", "_law_sorts_here", "_law_pair"] sp__law_list) : Cal P w K mg base 5 "_law_parts_of_book" ["_law_pool_here"] sp__law_parts_of_book := by
  refine cal_of D sc__law_parts_of_book len1 fun f cdv A outer s H vs Q E hr h => ?_
  obtain ⟨_, rfl, p, c, rfl, PO, q⟩ := h
  refine ⟨_, (pss_cons (ps_set (i := 1) sc__law_parts_of_book.nd rfl (.inl rfl) (pe_cal c__law_sorts hr (by decide) (by rfl) (pa_cons (pv 0) pa_nil)))
    (pss_cons (ps_set (i := 2) sc__law_parts_of_book.nd rfl (.inl rfl) (pe_cal c__law_pairs hr (by decide) (by rfl) (pa_cons (pv 1) pa_nil)))
    (pss_cons (ps_set (i := 3) sc__law_parts_of_book.nd rfl (.inl rfl) (pe_lst pa_nil))
    (pss_cons (ps_for PassesOwn.never rfl (pi_range1 (by rfl) T.b_range (pa_cons (pe_cal c__law_some hr (by decide) (by rfl) (pa_cons (pv 0) (pa_cons (pe_lst (pa_cons pe_int (pa_cons pe_int (pa_cons pe_int (pa_cons pe_int (pa_cons pe_int (pa_cons pe_int pa_nil))))))) pa_nil))) pa_nil)) (pg_name (i := 4) sc__law_parts_of_book.nd rfl (.inl rfl))
    (pss_cons (ps_setLc (i := 5) (own := [("_law_pair", 6)]) (g := (gName 6)) (by rfl) sc__law_parts_of_book.nd rfl rfl (sw_true rfl rfl rfl (by decide +kernel)) (pi_list (pv 2)) (blkOk_by (own := [("_law_pair", 6)]) (N := ["_law_pool_here", "_law_sorts_here", "_law_pairs_here", "_law_kinds", "_law_k", "_law_joins", "_law_pair"]) (sc := defScope s__law_parts_of_book) (by decide +kernel)) (fun _ _ _ _ _ => (pg_name (i := 6) sc__law_parts_of_book.nd rfl (.inl rfl))) (fun _ _ _ _ _ => (pts_one (pt_cmpR op_eq (pe_cal c__law_draw hr (by decide) (by rfl) (pa_cons (pv 0) (pa_cons pe_int pa_nil))) pe_int (nomark _)))) (fun _ _ _ _ _ => (pv 6)))
    (Evl.pss_cut (ps_if (pt_cmpR op_eq (pe_callB call_len_seq (by rfl) T.b_len (by decide +kernel) (pa_cons (pv 5) pa_nil)) pe_int (nomark _))
    (pss_one (ps_set (i := 5) sc__law_parts_of_book.nd rfl (.inl rfl) (pe_lst (pa_cons (pe_cal c__law_some hr (by decide) (by rfl) (pa_cons (pv 0) (pa_cons (pv 2) pa_nil))) pa_nil))))
    pss_nil)
    (pss_one (ps_expr (pe_bm PySem.F.plainAttrs_list PySem.F.slot_list_append PySem.F.type_list_append mt_append (pv 3) (pa_cons (pe_tup (pa_cons (pe_cal c__law_list hr (by decide) (by rfl) (pa_cons (pv 0) (pa_cons (pv 1) (pa_cons (pe_cal c__law_some hr (by decide) (by rfl) (pa_cons (pv 0) (pa_cons (pv 5) pa_nil))) pa_nil)))) (pa_cons (pe_callTy call_tuple_of (by rfl) T.b_tuple (by decide +kernel) (pa_cons (pv 5) pa_nil)) pa_nil))) pa_nil)))))))
    (pss_one (ps_ret (pe_tup (pa_cons (pv 1) (pa_cons (pe_callTy call_tuple_of (by rfl) T.b_tuple (by decide +kernel) (pa_cons (pv 3) pa_nil)) pa_nil))))))))), ?_⟩
  refine ⟨_, rfl, _, rfl, p, c, rfl, PO, fun H1 va ss d1 hs1 okS land => ?_⟩
  refine ⟨_, rfl, _, rfl, ss, hs1, okS, land, fun H2 L ys js e2 hLn hL2 prj okJ pwJ neJ lenJ => ?_⟩
  obtain ⟨Lp, Lc⟩ := d1.po.fresh hLn
  have d2 := d1.same e2
  have hs2 := lsUp (sts e2) hs1
  refine ⟨Nat.zero_le _, fun M hM => ?_⟩
  obtain ⟨Mp, Mc⟩ := d2.po.fresh hM
  have hM0 := d2.free hM
  have e3 : Same H2 (upd H2 M (.lst [])) := same_new hM
  have k3 : KF (upd H2 M (.lst [])) M ss 0 := ⟨[], [], upd_same, .nil, rfl, fun _ z => by simp at z⟩
  have LM : L ≠ M := ne_of_none hL2 hM
  generalize upd H2 M (.lst []) = H3 at e3 k3
  -- how many kinds
  refine ⟨_, rfl, (by show 6 ≤ sizeLine; decide), fun w hw => ?_⟩
  have d3 := d2.same e3
  have f4 := d3.po.fresh hw
  have e4 : Same H3 (upd H3 w (.lst [.int 1, .int 1, .int 2, .int 2, .int 3, .int 0])) := same_new hw
  refine ⟨_, _, rfl, p, c, w, _, rfl, rfl, d3.po.up e4, .inl ⟨upd_same, f4.1, f4.2⟩, (by show 1 ≤ 6; omega), (by show 6 ≤ 1000; omega), fun H5 n x hx dr5 => ?_⟩
  obtain ⟨nn, rfl, n1, n2⟩ := in_6 hx
  have d25 : Dr p c H2 H5 := (Dr.of d2.po (e3.trans e4)).trans dr5
  have hL5 := d25.k _ _ Lp Lc hL2
  have k5 := (k3.same e4).dr dr5 Mp Mc
  refine ⟨_, rfl, by omega, by omega, for_range (fun i σ H6 => Dr p c H H6 ∧ TS H2 H6 ∧ H6 L = some (.lst ys) ∧ KF H6 M ss i ∧ ∃ y4 y5 y6, σ = [some (.ref p), some va, some (.ref L), some (.ref M), y4, y5, y6]) ⟨d2.trans d25, d25.t, hL5, k5, none, none, none, rfl⟩ (fun i σ H6 hi z => ?_) (fun σ H6 z => ?_)⟩
  · obtain ⟨d6, t6, hL6, k6, y4, y5, y6, rfl⟩ := z
    -- joins
    refine ⟨_, rfl, L, rfl, ⟨_, SqL.of hL6⟩, fun J hJ => ?_⟩
    obtain ⟨Jp, Jc⟩ := d6.po.fresh hJ
    have hJ0 := d6.free hJ
    have LJ : L ≠ J := ne_of_none hL6 hJ
    have MJ : M ≠ J := by
      obtain ⟨_, _, h1, _⟩ := k6
      exact ne_of_none h1 hJ
    have eJ := same_new (o := .lst []) hJ
    refine lc_list (xs := ys) (fun m H7 => Dr p c H H7 ∧ TS H2 H7 ∧ H7 L = some (.lst ys) ∧ KF H7 M ss i ∧ ∃ us js', H7 J = some (.lst us) ∧ Paired (FrV H7) us js' ∧ js'.Sublist (js.take m)) ⟨d6.same eJ, t6.trans (sts eJ), eJ _ _ hL6, k6.same eJ, [], [], upd_same, .nil, List.nil_sublist _⟩ (fun m H7 _ z => SqL.of z.2.2.1) (fun m x H7 hx z => ?_) (fun H7 z => ?_)
    · obtain ⟨d7, t7, hL7, k7, us, js', b1, b2, b3⟩ := z
      obtain ⟨j, gj, rj⟩ := pr_get prj hx
      have hb : us.length ≤ 16 := by
        rw [pr_len b2]
        have := b3.length_le
        rw [List.length_take] at this
        omega
      refine ⟨rfl, _, rfl, _, _, rfl, p, c, 3, rfl, rfl, d7.po, by omega, by omega, fun H8 d8 g1 g2 dr8 => ⟨rfl, _, rfl, ?_⟩⟩
      have hJ8 := dr8.k _ _ Jp Jc b1
      have hL8 := dr8.k _ _ Lp Lc hL7
      have k8 := k7.dr dr8 Mp Mc
      by_cases h0 : d8 = 0
      · refine iteD (congrArg V.int h0) ?_
        have tl := ts_upd (o := .lst (us ++ [x])) hJ8
        refine ⟨_, rfl, us, hJ8, z_lt (by omega), (d7.trans dr8).mut hJ0 hJ8 Jp Jc, (t7.trans dr8.t).trans tl, by rw [upd_ne LJ]; exact hL8, k8.upd hJ8 MJ, us ++ [x], js' ++ [j], upd_same, L2.Paired.mapP (pr_app (L2.Paired.mapP b2 fun _ _ z => z.up dr8.t) (pr_one (rj.up (t7.trans dr8.t)))) fun _ _ z => z.up tl, ?_⟩
        rw [List.take_add_one, gj]
        exact b3.append (List.Sublist.refl _)
      · refine iteND (fun z => h0 (V.int.inj z)) ?_
        refine ⟨d7.trans dr8, t7.trans dr8.t, hL8, k8, us, js', hJ8, L2.Paired.mapP b2 fun _ _ z => z.up dr8.t, ?_⟩
        rw [List.take_add_one]
        exact b3.trans (List.sublist_append_left _ _)
    · obtain ⟨d7, t7, hL7, k7, us, js', b1, b2, b3⟩ := z
      have b4 : js'.Sublist js := by
        rw [pr_len prj, List.take_length] at b3
        exact b3
      have ulen := pr_len b2
      -- one at least
      refine ⟨fun σ H9 => Dr p c H H9 ∧ TS H2 H9 ∧ H9 L = some (.lst ys) ∧ KF H9 M ss i ∧ ∃ J us js' y4 y6, (J ≠ p ∧ J ≠ c) ∧ H9 J = some (.lst us) ∧ Paired (FrV H9) us js' ∧ js'.Sublist js ∧ js' ≠ [] ∧ σ = [some (.ref p), some va, some (.ref L), some (.ref M), y4, some (.ref J), y6], ?_, fun σ H9 z => ?_⟩
      · refine ⟨_, rfl, J, _, rfl, .inl (SqL.of b1), rfl, _, rfl, ?_⟩
        by_cases h0 : V.int ((us.length : Nat) : Int) = V.int 0
        · refine iteD h0 ?_
          refine ⟨_, rfl, _, rfl, _, _, rfl, p, c, L, ys, rfl, rfl, d7.po, .inl ⟨hL7, Lp, Lc⟩, ?_, ?_, fun H8 m x hx dr8 => ⟨(by show 1 ≤ sizeLine; decide), fun J2 hJ2 => ?_⟩⟩
          · rw [pr_len prj]
            exact List.length_pos_iff.mpr neJ
          · rw [pr_len prj]
            omega
          · obtain ⟨j, gj, rj⟩ := pr_get prj hx
            have d8 := d7.trans dr8
            have e9 := same_new (o := .lst [x]) hJ2
            exact ⟨d8.same e9, (t7.trans dr8.t).trans (sts e9), e9 _ _ (dr8.k _ _ Lp Lc hL7), (k7.dr dr8 Mp Mc).same e9, J2, [x], [j], _, _, d8.po.fresh hJ2, upd_same, pr_one (rj.up ((t7.trans dr8.t).trans (sts e9))), List.singleton_sublist.mpr (List.mem_of_getElem? gj), by simp, rfl⟩
        · refine iteND h0 ?_
          refine ⟨d7, t7, hL7, k7, J, us, js', _, _, ⟨Jp, Jc⟩, b1, b2, b4, fun z => h0 ?_, rfl⟩
          rw [ulen, z]
          rfl
      · obtain ⟨d9, t9, hL9, k9, J, us, js', y4, y6, ⟨Jp, Jc⟩, b1, b2, b4, b5, rfl⟩ := z
        have ulen := pr_len b2
        have jl := b4.length_le
        have jpos : 1 ≤ js'.length := List.length_pos_iff.mpr b5
        -- kinds.append
        have hMl : ∃ zs, H9 M = some (.lst zs) := by
          obtain ⟨zs, _, h1, _⟩ := k9
          exact ⟨zs, h1⟩
        obtain ⟨zs0, hM9⟩ := hMl
        refine ⟨_, rfl, .inl ⟨rfl, _, SqL.of hM9⟩, _, rfl, _, rfl, _, rfl, _, rfl, _, _, rfl, p, c, J, us, rfl, rfl, d9.po, .inl ⟨b1, Jp, Jc⟩, by omega, by omega, fun H10 m x hx dr10 => ?_⟩
        obtain ⟨j, gj, rj⟩ := pr_get b2 hx
        have okj := okJ j (b4.subset (List.mem_of_getElem? gj))
        refine ⟨_, _, _, rfl, p, c, ss, j, rfl, dr10.po, lsUp (t9.trans dr10.t) hs2, rj.up dr10.t, okS, okj, fun H11 v l dr11 hv okl topl => ?_⟩
        have dr911 := dr10.trans dr11
        have b11 := dr911.k _ _ Jp Jc b1
        refine ⟨_, rfl, J, us, rfl, .inl ⟨SqL.of b11, fun t ht => ⟨(by show 2 ≤ sizeLine; decide), fun u hu => ?_⟩⟩⟩
        have e12 : Same H11 (upd H11 t (.tup us)) := same_new ht
        have ht12 : (upd H11 t (.tup us)) t = some (.tup us) := upd_same
        generalize upd H11 t (.tup us) = H12 at e12 ht12 hu
        have e13 : Same H12 (upd H12 u (.tup [v, .ref t])) := same_new hu
        have hu13 : (upd H12 u (.tup [v, .ref t])) u = some (.tup [v, .ref t]) := upd_same
        generalize upd H12 u (.tup [v, .ref t]) = H13 at e13 hu13
        have e1113 := e12.trans e13
        obtain ⟨zs, ks, h1, h2, h3, h4⟩ := (k9.dr dr911 Mp Mc).same e1113
        have zlen := pr_len h2
        have i3 : i < 3 := by omega
        have d13 := (d9.trans dr911).same e1113
        have t913 := dr911.t.trans (sts e1113)
        refine ⟨M, zs, .ref u, rfl, rfl, h1, z_lt (by omega), d13.mut hM0 h1 Mp Mc, ?_, ?_, ⟨zs ++ [.ref u], ks ++ [(l, js')], upd_same, ?_, by rw [List.length_append, List.length_singleton, h3], fun k hk => ?_⟩, _, _, _, rfl⟩
        · exact (t9.trans t913).trans (ts_upd h1)
        · rw [upd_ne LM]
          exact e1113 _ _ (dr911.k _ _ Lp Lc hL9)
        · refine L2.Paired.mapP (pr_app h2 (pr_one ?_)) fun _ _ z => z.up (ts_upd h1)
          exact ⟨u, v, .ref t, rfl, hu13, lsUp (sts e1113) hv, t, us, rfl, e13 _ _ ht12, L2.Paired.mapP b2 fun _ _ z => z.up t913⟩
        · rcases List.mem_append.mp hk with hk | hk
          · exact h4 k hk
          · rw [List.mem_singleton] at hk
            subst hk
            exact ⟨⟨okl, b5, by show js'.length ≤ 16; omega, fun j hj => okJ j (b4.subset hj), pwJ.sublist b4⟩, topl⟩
  · obtain ⟨d6, t6, hL6, ⟨zs, ks, h1, h2, h3, h4⟩, y4, y5, y6, rfl⟩ := z
    refine ⟨_, rfl, _, rfl, M, zs, rfl, .inl ⟨SqL.of h1, fun t ht => ⟨(by show 2 ≤ sizeLine; decide), fun u hu => ?_⟩⟩⟩
    have e7 : Same H6 (upd H6 t (.tup zs)) := same_new ht
    have ht7 : (upd H6 t (.tup zs)) t = some (.tup zs) := upd_same
    generalize upd H6 t (.tup zs) = H7 at e7 ht7 hu
    have e8 := same_new (o := .tup [va, .ref t]) hu
    have e68 := e7.trans e8
    exact q _ u va (.ref t) ss ks (d6.same e68) upd_same (lsUp (t6.trans (sts e68)) hs2) ⟨t, zs, rfl, e8 _ _ ht7, L2.Paired.mapP h2 fun _ _ z => z.up (sts e68)⟩ okS ⟨by omega, fun k hk => (h4 k hk).1⟩ fun k hk => (h4 k hk).2
end
end K30
set_option Elab.async false
set_option linter.all false
set_option maxRecDepth 100000
set_option maxHeartbeats 4000000
namespace K30
open PySem PySem.Spec PyProof.Rows L2
section
variable {P : Program} {w : World} {K : PySem.W.Frag} {mg : Str → Option Value} {base : Heap}
theorem cut_whole {xs : List V} {lo hi : Option Int} (z : HT.sIx xs.length 0 lo = 0 ∧ HT.sIx xs.length xs.length hi = xs.length) : cutV xs lo hi = xs := by
  unfold cutV
  rw [z.1, z.2, List.drop_zero, Nat.sub_zero, List.take_length]
theorem slA {a : Addr} {xs : List V} {lo hi : Option Int} {H : Hp} {Q : VK} (h : H a = some (.tup xs)) (k : ∀ r H', Same H H' → H' r = some (.tup (cutV xs lo hi)) → Q (.ref r) H') : rSlA K (.ref a) lo hi H Q :=
  ⟨a, xs, rfl, SqT.of h, fun z => k a H (Same.refl _) (by rw [cut_whole z]; exact h), fun _ p hp => k p _ (same_new hp) upd_same⟩
theorem slN {a : Addr} {xs : List V} {lo : Option Int} {σ : L2.St} {H : Hp} {Q : VK} (h : H a = some (.tup xs)) (k : ∀ r H', Same H H' → H' r = some (.tup (cutV xs lo none)) → Q (.ref r) H') : tNoPart σ H (fun u H3 => rSlA K (.ref a) lo u H3 Q) := slA h k
theorem catA {a b : Addr} {xs ys : List V} {H : Hp} {Q : VK} (ha : H a = some (.tup xs)) (hb : H b = some (.tup ys)) (hz : xs.length + ys.length ≤ 1000) (k : ∀ r H', Same H H' → H' r = some (.tup (xs ++ ys)) → Q (.ref r) H') : rCatA K (.ref a) (.ref b) H Q :=
  ⟨a, b, xs, ys, rfl, rfl, SqT.of ha, SqT.of hb, z_le (by omega), fun z => k b H (Same.refl _) (by rw [z, List.nil_append]; exact hb), fun _ z => k a H (Same.refl _) (by rw [z, List.append_nil]; exact ha), fun _ _ p hp => k p _ (same_new hp) upd_same⟩
theorem perm_put {α : Type} {l : List α} {m : Nat} {x y : α} (h : l[m]? = some x) : ((l.take m ++ [y]) ++ l.drop (m + 1)).length = l.length := by
  have hm := (List.getElem?_eq_some_iff.mp h).1
  rw [List.length_append, List.length_append, List.length_take, List.length_drop, List.length_singleton]
  omega
theorem sc__law_moved : FnScope ["_law_pool_here", "_law_sorts_here", "_law_kinds", "_law_at", "_law_steps", "_law_joins", "_law_grains_here", "_law_place", "_law_top", "_law_bottom", "_law_moved_here"] ["_law_pool_here", "_law_sorts_here", "_law_kinds"] (defScope s__law_moved) := ⟨rfl, rfl, rfl, by decide +kernel, rfl, by decide +kernel, by decide +kernel⟩
def sp__law_moved : Sp := Sp3 fun a b e H Q => ∃ (p c : Addr) (ss : List Fr) (ks : List Kd), a = .ref p ∧ Pool H p c ∧ LsV H b ss ∧ KsV H e ks ∧ SortsOk ss ∧ KindsOk ss ks ∧ ks ≠ [] ∧ (∀ k ∈ ks, ∀ q ∈ k.1, q.1 ≤ 13000) ∧
  ∀ H' v (ks' : List Kd), Dr p c H H' → KsV H' v ks' → KindsOk ss ks' → Q v H'
theorem ok__law_moved (T : Blt mg) (D : DefAt K mg "_law_moved" s__law_moved ["_law_pool_here", "_law_sorts_here", "_law_kinds"]) (c__law_draw : Cal P w K mg base 1 "_law_draw" ["_law_pool_here", "_law_many"] sp__law_draw) (c__law_some : Cal P w K mg base 2 "_law_some" ["_law_pool_here", "_law_things"] sp__law_some)
    (c__law_pair_grains : Cal P w K mg base 3 "_law_pair_grains" ["_law_sorts_here", "_law_pair"] sp__law_pair_grains) (c__law_lowest : Cal P w K mg base 2 "_law_lowest" ["_law_top", "_law_bottom"] sp__law_lowest) (c__law_ascending : Cal P w K mg base 1 "_law_ascending" ["_law_steps"] sp__law_ascending) : Cal P w K mg base 4 "_law_moved" ["_law_pool_here", "_law_sorts_here", "_law_kinds"] sp__law_moved := by
  refine cal_of D sc__law_moved len3 fun f cdv A outer s H vs Q E hr h => ?_
  obtain ⟨_, vb, _, rfl, p, c, ss, ks, rfl, PO, hs, ⟨pk, uk, rfl, hk, prk⟩, okS, okK, hne, htop, q⟩ := h
  have klen := pr_len prk
  have kpos : 1 ≤ ks.length := List.length_pos_iff.mpr hne
  have k5 := okK.1
  refine ⟨_, (pss_cons (ps_set (i := 3) sc__law_moved.nd rfl (.inl rfl) (pe_cal c__law_draw hr (by decide) (by rfl) (pa_cons (pv 0) (pa_cons (pe_callB call_len_seq (by rfl) T.b_len (by decide +kernel) (pa_cons (pv 2) pa_nil)) pa_nil))))
    (pss_cons (ps_asg (pe_ix ix_tup (pv 2) (pv 3) (fun _ _ => rfl)) (pg_tup rfl (pgs_cons (pg_name (i := 4) sc__law_moved.nd rfl (.inl rfl)) (pgs_cons (pg_name (i := 5) sc__law_moved.nd rfl (.inl rfl)) pgs_nil))))
    (pss_cons (ps_set (i := 6) sc__law_moved.nd rfl (.inl rfl) (pe_cal c__law_pair_grains hr (by decide) (by rfl) (pa_cons (pv 1) (pa_cons (pe_cal c__law_some hr (by decide) (by rfl) (pa_cons (pv 0) (pa_cons (pv 5) pa_nil))) pa_nil))))
    (pss_cons (ps_set (i := 7) sc__law_moved.nd rfl (.inl rfl) (pe_cal c__law_draw hr (by decide) (by rfl) (pa_cons (pv 0) (pa_cons (pe_callB call_len_seq (by rfl) T.b_len (by decide +kernel) (pa_cons (pv 4) pa_nil)) pa_nil))))
    (pss_cons (ps_asg (pe_ix ix_tup (pv 4) (pv 7) (fun _ _ => rfl)) (pg_tup rfl (pgs_cons (pg_name (i := 8) sc__law_moved.nd rfl (.inl rfl)) (pgs_cons (pg_name (i := 9) sc__law_moved.nd rfl (.inl rfl)) pgs_nil))))
    (pss_cons (ps_set (i := 8) sc__law_moved.nd rfl (.inl rfl) (pe_op op_add (pe_op op_mul (pv 8) (pv 6)) (pe_op op_mul (pv 9) (pe_op op_sub pe_int (pe_op op_mul pe_int (pe_cal c__law_draw hr (by decide) (by rfl) (pa_cons (pv 0) (pa_cons pe_int pa_nil))))))))
    (pss_cons (ps_set (i := 10) sc__law_moved.nd rfl (.inl rfl) (pe_cal c__law_lowest hr (by decide) (by rfl) (pa_cons (pv 8) (pa_cons (pe_op op_mul (pv 9) (pv 6)) pa_nil))))
    (pss_cons (ps_if (PW.pt (pw_or (pt_cmpR op_lt (pe_ix ix_tup (pv 10) pe_int (fun _ _ => rfl)) pe_int (nomark _)) (pw_or1 (pt_cmpR op_gt (pe_ix ix_tup (pv 10) pe_int (fun _ _ => rfl)) pe_int (nomark _)))))
    (pss_one (ps_ret (pv 2)))
    pss_nil)
    (pss_cons (ps_set (i := 4) sc__law_moved.nd rfl (.inl rfl) (pe_cal c__law_ascending hr (by decide) (by rfl) (pa_cons (pe_op op_catA (pe_op op_catA (pe_slice sl_tupA (pv 4) po_none (po_some (pv 7))) (pe_tup (pa_cons (pv 10) pa_nil))) (pe_slice sl_tupA (pv 4) (po_some (pe_op op_add (pv 7) pe_int)) po_none)) pa_nil)))
    (pss_one (ps_ret (pe_op op_catA (pe_op op_catA (pe_slice sl_tupA (pv 2) po_none (po_some (pv 3))) (pe_tup (pa_cons (pe_tup (pa_cons (pv 4) (pa_cons (pv 5) pa_nil))) pa_nil))) (pe_slice sl_tupA (pv 2) (po_some (pe_op op_add (pv 3) pe_int)) po_none))))))))))))), ?_⟩
  refine ⟨_, rfl, _, rfl, pk, _, rfl, .inr (SqT.of hk), _, _, rfl, p, c, _, rfl, rfl, PO, by omega, by omega, fun H1 d g1 g2 dr1 => ?_⟩
  obtain ⟨n, rfl⟩ : ∃ n : Nat, d = (n : Int) := ⟨d.toNat, by omega⟩
  have hn : n < ks.length := by omega
  obtain ⟨⟨l, js⟩, gk⟩ : ∃ k, ks[n]? = some k := ⟨_, List.getElem?_eq_getElem hn⟩
  obtain ⟨_, gn, rk⟩ := pr_get' prk gk
  have okk := okK.2 _ (List.mem_of_getElem? gk)
  have tpk := htop _ (List.mem_of_getElem? gk)
  obtain ⟨tk, u1, u2, rfl, htk, ⟨pl, ul, rfl, hl, prl⟩, ⟨pj, uj, rfl, hj, prj⟩⟩ := rk.up dr1.t
  have hk1 := dr1.t _ _ hk
  have llen : ul.length = l.length := pr_len prl
  have jlen : uj.length = js.length := pr_len prj
  have l6 : 1 ≤ l.length ∧ l.length ≤ 6 := ⟨okk.1.1, okk.1.2.1⟩
  have j16 : 1 ≤ js.length ∧ js.length ≤ 16 := ⟨List.length_pos_iff.mpr (show js ≠ [] from okk.2.1), okk.2.2.1⟩
  refine ⟨_, rfl, _, rfl, pk, uk, _, _, rfl, rfl, SqT.of hk1, atI_nat gn, tk, _, rfl, SqT.of htk, rfl, _, _, rfl, _, _, rfl, rfl, ?_⟩
  -- grains of some join
  refine ⟨_, rfl, _, rfl, _, rfl, _, _, rfl, p, c, pj, uj, rfl, rfl, dr1.po, .inr hj, by omega, by omega, fun H2 i x hx dr2 => ?_⟩
  obtain ⟨j, gj, rj⟩ := pr_get prj hx
  have okj := okk.2.2.2.1 j (List.mem_of_getElem? gj)
  have gok := gP_ok okS okj
  refine ⟨_, _, rfl, ss, j, lsUp (dr1.t.trans dr2.t) hs, rj.up dr2.t, okS, okj, ?_⟩
  generalize gP ss j = g at gok
  have hl2 := dr2.t _ _ hl
  -- a threshold of it
  refine ⟨_, rfl, _, rfl, pl, _, rfl, .inr (SqT.of hl2), _, _, rfl, p, c, _, rfl, rfl, dr2.po, by omega, by omega, fun H3 d3 g3 g4 dr3 => ?_⟩
  obtain ⟨m, rfl⟩ : ∃ m : Nat, d3 = (m : Int) := ⟨d3.toNat, by omega⟩
  have hm : m < l.length := by omega
  obtain ⟨⟨a, b⟩, ga⟩ : ∃ k, l[m]? = some k := ⟨_, List.getElem?_eq_getElem hm⟩
  obtain ⟨_, gm, ra⟩ := pr_get' prl ga
  have oka : FrOk (a, b) := okk.1.2.2.1 _ (List.mem_of_getElem? ga)
  have a1 : (1 : Int) ≤ a := oka.1
  have a2 : a ≤ 13000 := tpk _ (List.mem_of_getElem? ga)
  have b1 : (1 : Int) ≤ b := oka.2.2.1
  have b2 : b ≤ 144 := oka.2.2.2.1
  have dr13 := dr2.trans dr3
  obtain ⟨tq, rfl, htq⟩ := ra.up dr13.t
  have hl3 := dr13.t _ _ hl
  refine ⟨_, rfl, _, rfl, pl, ul, _, _, rfl, rfl, SqT.of hl3, atI_nat gm, tq, _, rfl, SqT.of htq, rfl, _, _, rfl, _, _, rfl, rfl, ?_⟩
  refine ⟨_, rfl, _, rfl, _, _, rfl, rfl, .inl ⟨by omega, by omega⟩, _, rfl, _, rfl, _, _, rfl, p, c, 2, rfl, rfl, dr3.po, by omega, by omega, fun H4 d4 g5 g6 dr4 => ⟨_, _, rfl, rfl, .inl ⟨by omega, by omega⟩, _, _, rfl, rfl, _, _, rfl, rfl, .inl ⟨by omega, by omega⟩, _, _, rfl, rfl, ?_⟩⟩
  have ag : 0 ≤ a * g ∧ a * g ≤ 780000 := by
    have h1 : 0 ≤ a * g := Int.mul_nonneg (by omega) (by omega)
    have h2 : a * g ≤ 13000 * g := Int.mul_le_mul_of_nonneg_right a2 (by omega)
    omega
  have bd : -144 ≤ b * (1 - 2 * d4) ∧ b * (1 - 2 * d4) ≤ 144 := by
    rcases (by omega : d4 = 0 ∨ d4 = 1) with rfl | rfl
    · rw [show (1 : Int) - 2 * 0 = 1 by decide, Int.mul_one]
      omega
    · rw [show (1 : Int) - 2 * 1 = -1 by decide, Int.mul_neg, Int.mul_one]
      omega
  have bg : 1 ≤ b * g ∧ b * g ≤ 8640 := by
    have h1 : b * 1 ≤ b * g := Int.mul_le_mul_of_nonneg_left gok.1 (by omega)
    have h2 : b * g ≤ 144 * g := Int.mul_le_mul_of_nonneg_right b2 (by omega)
    omega
  obtain ⟨tp, htp, tp0, tp1⟩ : ∃ tp : Int, a * g + b * (1 - 2 * d4) = tp ∧ -144 ≤ tp ∧ tp ≤ 780144 := ⟨_, rfl, by omega, by omega⟩
  refine ⟨_, rfl, _, rfl, _, rfl, _, _, rfl, rfl, .inl ⟨(show -(2:Int)^64 < b by omega), (show b < (2:Int)^64 by omega)⟩, _, _, rfl, tp, b * g, congrArg V.int htp, rfl, bg.1, by omega, fun H5 v e5 hv => ?_⟩
  obtain ⟨tv, rfl, htv⟩ := hv
  have dr15 := (dr13.trans dr4).same e5
  have dr05 := dr1.trans dr15
  have lw2 := lowI_2 (i := tp) bg.1
  refine ⟨_, rfl, tv, _, _, _, rfl, rfl, SqT.of htv, atI_nat (j := 0) rfl, _, _, rfl, rfl, _, rfl, ?_⟩
  by_cases h0 : (lowI tp (b * g)).1 < 1
  · refine iteD h0 ⟨_, rfl, q _ _ ks dr05 (ksUp dr05.t ⟨pk, uk, rfl, hk, prk⟩) okK⟩
  refine iteND h0 ?_
  refine ⟨_, rfl, tv, _, _, _, rfl, rfl, SqT.of htv, atI_nat (j := 1) rfl, _, _, rfl, rfl, _, rfl, ?_⟩
  by_cases h1 : 144 < (lowI tp (b * g)).2
  · refine iteD h1 ⟨_, rfl, q _ _ ks dr05 (ksUp dr05.t ⟨pk, uk, rfl, hk, prk⟩) okK⟩
  refine iteND h1 ?_
  have okm : FrOk (lowI tp (b * g)) := by
    have t1 := lowI_1pos bg.1 (show 1 ≤ (lowI tp (b * g)).1 by omega)
    have lw1 := lowI_1 bg.1 t1
    exact ⟨lw1.1, by omega, lw2.1, by omega, lowI_gcd bg.1⟩
  generalize lowI tp (b * g) = mv at *
  have hl5 := dr15.t _ _ hl
  have pr5 : Paired (FrV H5) ul l := L2.Paired.mapP prl fun _ _ z => z.up dr15.t
  -- the new list
  refine ⟨_, rfl, _, rfl, _, rfl, slA hl5 fun r1 H6 e6 h6 => ?_⟩
  rw [show cutV ul none (some (m : Int)) = ul.take m from cut_to] at h6
  refine ⟨_, rfl, (by show 1 ≤ sizeLine; decide), fun t ht => ?_⟩
  have e7 := same_new (o := .tup [.ref tv]) ht
  refine catA (e7 _ _ h6) upd_same (by rw [List.length_take]; show _ + 1 ≤ 1000; omega) fun r2 H8 e8 h8 => ?_
  have e58 := (e6.trans e7).trans e8
  refine ⟨_, rfl, _, rfl, _, _, rfl, rfl, _, rfl, slN (e58 _ _ hl5) fun r3 H9 e9 h9 => ?_⟩
  rw [show cutV ul (some ((m : Int) + 1)) none = ul.drop (m + 1) from cut_from (k := m + 1)] at h9
  refine catA (e9 _ _ h8) h9 (by rw [List.length_append, List.length_take, List.length_drop]; show _ + 1 + _ ≤ 1000; omega) fun r4 H10 e10 h10 => ?_
  have e510 := (e58.trans e9).trans e10
  have hmv : FrV H5 (.ref tv) mv := ⟨tv, rfl, htv⟩
  have pr10 : Paired (FrV H10) (ul.take m ++ [.ref tv] ++ ul.drop (m + 1)) (l.take m ++ [mv] ++ l.drop (m + 1)) := L2.Paired.mapP (pr_app (pr_app (pr_take m pr5) (pr_one hmv)) (pr_drop (m + 1) pr5)) fun _ _ z => z.up (sts e510)
  have okn : ∀ x ∈ l.take m ++ [mv] ++ l.drop (m + 1), FrOk x := fun x hx => by
    rcases List.mem_append.mp hx with hx | hx
    · rcases List.mem_append.mp hx with hx | hx
      · exact okk.1.2.2.1 x (List.mem_of_mem_take hx)
      · rw [List.mem_singleton] at hx
        subst hx
        exact okm
    · exact okk.1.2.2.1 x (List.mem_of_mem_drop hx)
  have nlen := perm_put (y := mv) ga
  refine ⟨_, rfl, r4, _, _, rfl, .inr h10, pr10, by omega, okn, fun H11 v l' e11 hv hp hpw => ?_⟩
  have okl' : LsOk l' := ⟨by rw [hp.length_eq]; omega, by rw [hp.length_eq]; omega, fun x hx => okn x (hp.mem_iff.mp hx), hpw⟩
  have dr011 := dr05.same (e510.trans e11)
  have hk11 := dr011.t _ _ hk
  have dr111 := dr15.same (e510.trans e11)
  have hj11 := dr111.t _ _ hj
  have prj11 : Paired (FrV H11) uj js := L2.Paired.mapP prj fun _ _ z => z.up dr111.t
  have prk11 : Paired (KdV H11) uk ks := L2.Paired.mapP prk fun _ _ z => z.up dr011.t
  -- the new kinds
  refine ⟨_, rfl, _, rfl, _, rfl, slA hk11 fun r5 H12 e12 h12 => ?_⟩
  rw [show cutV uk none (some (n : Int)) = uk.take n from cut_to] at h12
  refine ⟨_, rfl, _, rfl, (by show 2 ≤ sizeLine; decide), fun t2 ht2 => ⟨(by show 1 ≤ sizeLine; decide), fun t3 ht3 => ?_⟩⟩
  have e13 := same_new (o := .tup [v, .ref pj]) ht2
  have e14 := same_new (o := .tup [.ref t2]) ht3
  have e1214 := e13.trans e14
  refine catA (e1214 _ _ h12) upd_same (by rw [List.length_take]; show _ + 1 ≤ 1000; omega) fun r6 H15 e15 h15 => ?_
  have e1115 := (e12.trans e1214).trans e15
  have ht15 := (e14.trans e15) _ _ (upd_same (H := H12) (a := t2) (o := .tup [v, .ref pj]))
  refine ⟨_, rfl, _, rfl, _, _, rfl, rfl, _, rfl, slN (e1115 _ _ hk11) fun r7 H16 e16 h16 => ?_⟩
  rw [show cutV uk (some ((n : Int) + 1)) none = uk.drop (n + 1) from cut_from (k := n + 1)] at h16
  refine catA (e16 _ _ h15) h16 (by rw [List.length_append, List.length_take, List.length_drop]; show _ + 1 + _ ≤ 1000; omega) fun r8 H17 e17 h17 => ?_
  have e1117 := (e1115.trans e16).trans e17
  have hnew : KdV H17 (.ref t2) (l', js) := ⟨t2, v, .ref pj, rfl, (e16.trans e17) _ _ ht15, lsUp (sts e1117) hv, pj, uj, rfl, e1117 _ _ hj11, L2.Paired.mapP prj11 fun _ _ z => z.up (sts e1117)⟩
  have prn : Paired (KdV H17) uk ks := L2.Paired.mapP prk11 fun _ _ z => z.up (sts e1117)
  have nl := perm_put (y := (l', js)) gk
  refine q _ _ (ks.take n ++ [(l', js)] ++ ks.drop (n + 1)) (dr011.same e1117) ⟨r8, _, rfl, h17, pr_app (pr_app (pr_take n prn) (pr_one hnew)) (pr_drop (n + 1) prn)⟩ ⟨by omega, fun k hk => ?_⟩
  rcases List.mem_append.mp hk with hk | hk
  · rcases List.mem_append.mp hk with hk | hk
    · exact okK.2 k (List.mem_of_mem_take hk)
    · rw [List.mem_singleton] at hk
      subst hk
      exact ⟨okl', okk.2⟩
  · exact okK.2 k (List.mem_of_mem_drop hk)
/-! ### the law -/
theorem fn_of {x : Str} {st : Stmt} {N ps : List Str} {k : Nat} {sp : Sp} {f : Addr} {fd : FuncData} (F : FunD K x x (defArgs st) (defBody st) (defScope st) [] [] f fd) (S : FnScope N ps (defScope st)) (len : ∀ vs H Q E, sp vs H Q E → vs.length = ps.length)
    (hbody : ∀ (f : Addr) (cdv : Value) (A : Around) (outer : List Env) (s : Shared) (H : Hp) (vs : List V) (Q : VK) (E : XK), Room k (A.deeper (envOfC x (defScope st) s.heap.objs.size f cdv)) → sp vs H Q E →
      ∃ t, PSs (cxOf CX0 P w K mg base N x (defScope st) f cdv A outer s H E).nox (defBody st) t ∧ t { nx := fun _ H' => Q .non H', rt := Q } (start N vs) H) : FnOk P w K mg base CX0 (k + 1) f fd ps sp :=
  F.ok S len fun cdv A outer s H vs Q E hr hsp => by
    obtain ⟨t, h, q⟩ := hbody f cdv A outer s H vs Q E hr hsp
    exact ⟨t, h.nox, q⟩
theorem sc_law : FnScope ["_law_script", "_law_pool_here", "_law_turn", "_law_sorts_here", "_law_kinds"] ["_law_script"] (defScope s_law) := ⟨rfl, rfl, rfl, by decide +kernel, rfl, by decide +kernel, by decide +kernel⟩
def sp_law (K : PySem.W.Frag) : Sp := Sp1 fun a H Q => ∃ (t : Addr) (ns : List Int), a = .ref t ∧ SqL K H t (ns.map V.int) ∧ ns.length ≤ 63 ∧ ∀ H', Q (.bl true) H'
theorem ok_law {f : Addr} {fd : FuncData} (T : Blt mg) (F : FunD K "law" "law" (defArgs s_law) (defBody s_law) (defScope s_law) [] [] f fd) (c__law_pool : Cal P w K mg base 1 "_law_pool" ["_law_script"] (sp__law_pool K)) (c__law_parts_of_book : Cal P w K mg base 5 "_law_parts_of_book" ["_law_pool_here"] sp__law_parts_of_book)
    (c__law_is_right : Cal P w K mg base 9 "_law_is_right" ["_law_sorts_here", "_law_kinds"] sp__law_is_right) (c__law_moved : Cal P w K mg base 4 "_law_moved" ["_law_pool_here", "_law_sorts_here", "_law_kinds"] sp__law_moved) : FnOk P w K mg base CX0 10 f fd ["_law_script"] (sp_law K) := by
  refine fn_of F sc_law len1 fun f cdv A outer s H vs Q E hr h => ?_
  obtain ⟨va, rfl, t, ns, rfl, ht, n63, q⟩ := h
  refine ⟨_, (pss_cons (ps_set (i := 1) sc_law.nd rfl (.inl rfl) (pe_cal c__law_pool hr (by decide) (by rfl) (pa_cons (pv 0) pa_nil)))
    (pss_cons (ps_for PassesOwn.never rfl (pi_range1 (by rfl) T.b_range (pa_cons pe_int pa_nil)) (pg_name (i := 2) sc_law.nd rfl (.inl rfl))
    (pss_cons (ps_asg (pe_cal c__law_parts_of_book hr (by decide) (by rfl) (pa_cons (pv 1) pa_nil)) (pg_tup rfl (pgs_cons (pg_name (i := 3) sc_law.nd rfl (.inl rfl)) (pgs_cons (pg_name (i := 4) sc_law.nd rfl (.inl rfl)) pgs_nil))))
    (pss_cons (ps_if (pt_not (pt_val (pe_cal c__law_is_right hr (by decide) (by rfl) (pa_cons (pv 3) (pa_cons (pv 4) pa_nil)))))
    (pss_one (ps_ret pe_bl))
    pss_nil)
    (pss_one (ps_if (PW.pt (pw_and (pt_cmpR op_gt (pe_callB call_len_seq (by rfl) T.b_len (by decide +kernel) (pa_cons (pv 4) pa_nil)) pe_int (nomark _)) (pw_and1 (pt_not (pt_val (pe_cal c__law_is_right hr (by decide) (by rfl) (pa_cons (pv 3) (pa_cons (pe_cal c__law_moved hr (by decide) (by rfl) (pa_cons (pv 1) (pa_cons (pv 3) (pa_cons (pv 4) pa_nil)))) pa_nil))))))))
    (pss_one (ps_ret pe_bl))
    pss_nil)))))
    (pss_one (ps_ret pe_bl)))), ?_⟩
  refine ⟨_, rfl, _, rfl, t, ns, rfl, ht, n63, fun H1 p c e1 PO => ?_⟩
  refine ⟨4, rfl, by decide, by decide, for_range (fun i σ H2 => Pool H2 p c ∧ ∃ y2 y3 y4, σ = [some (.ref t), some (.ref p), y2, y3, y4]) ⟨PO, none, none, none, rfl⟩ (fun i σ H2 hi z => ?_) (fun σ H2 z => ?_)⟩
  · obtain ⟨P2, y2, y3, y4, rfl⟩ := z
    refine ⟨_, rfl, _, rfl, p, c, rfl, P2, fun H3 tt v1 v2 ss ks d3 ht3 h1 h2 okS okK top => ?_⟩
    refine ⟨tt, _, rfl, SqT.of ht3, rfl, _, _, rfl, _, _, rfl, rfl, ?_⟩
    refine ⟨_, rfl, _, rfl, _, _, rfl, ss, ks, h1, h2, okS, okK, fun H4 e4 => ⟨true, rfl, iteF ?_⟩⟩
    have P4 := d3.po.up e4
    have h24 := ksUp (sts e4) h2
    obtain ⟨pk, uk, rfl, hk, prk⟩ := id h24
    refine ⟨_, rfl, pk, _, rfl, .inr (SqT.of hk), _, _, rfl, rfl, _, rfl, ?_⟩
    by_cases h0 : (0 : Int) < uk.length
    · refine iteD h0 ?_
      have hne : ks ≠ [] := fun z => by
        have : uk = [] := (pr_ne prk).mpr z
        rw [this] at h0
        exact absurd h0 (by decide)
      refine ⟨_, rfl, _, rfl, _, rfl, _, rfl, _, _, _, rfl, p, c, ss, ks, rfl, P4, lsUp (sts e4) h1, h24, okS, okK, hne, top, fun H5 v ks' d5 hv okK' => ?_⟩
      refine ⟨_, _, rfl, ss, ks', lsUp ((sts e4).trans d5.t) h1, hv, okS, okK', fun H6 e6 => ⟨true, rfl, iteF ?_⟩⟩
      exact ⟨d5.po.up e6, _, _, _, rfl⟩
    · refine iteND h0 ?_
      exact ⟨P4, _, _, _, rfl⟩
  · exact q _
end
end K30
set_option Elab.async false
set_option linter.all false
set_option maxRecDepth 100000
set_option maxHeartbeats 0
namespace K30
open PySem PySem.Spec PyProof.Rows L2
/-! ### the head: facts by names, the run -/
def d_is_integer : He.DefD := ⟨("is_integer", none), "is_integer", "is_integer", defArgs s_is_integer, defBody s_is_integer, defScope s_is_integer, [], []⟩
def d_is_between : He.DefD := ⟨("is_between", none), "is_between", "is_between", defArgs s_is_between, defBody s_is_between, defScope s_is_between, [], []⟩
def d_is_pair : He.DefD := ⟨("is_pair", none), "is_pair", "is_pair", defArgs s_is_pair, defBody s_is_pair, defScope s_is_pair, [], []⟩
def d_is_row : He.DefD := ⟨("is_row", none), "is_row", "is_row", defArgs s_is_row, defBody s_is_row, defScope s_is_row, [], []⟩
def d_divisor : He.DefD := ⟨("divisor", none), "divisor", "divisor", defArgs s_divisor, defBody s_divisor, defScope s_divisor, [], []⟩
def d_multiple : He.DefD := ⟨("multiple", none), "multiple", "multiple", defArgs s_multiple, defBody s_multiple, defScope s_multiple, [], []⟩
def d_made : He.DefD := ⟨("made", none), "made", "made", defArgs s_made, defBody s_made, defScope s_made, [], []⟩
def d_is_fraction : He.DefD := ⟨("is_fraction", none), "is_fraction", "is_fraction", defArgs s_is_fraction, defBody s_is_fraction, defScope s_is_fraction, [], []⟩
def d_is_below : He.DefD := ⟨("is_below", none), "is_below", "is_below", defArgs s_is_below, defBody s_is_below, defScope s_is_below, [], []⟩
def d_next_whole : He.DefD := ⟨("next_whole", none), "next_whole", "next_whole", defArgs s_next_whole, defBody s_next_whole, defScope s_next_whole, [], []⟩
def d_is_threshold : He.DefD := ⟨("is_threshold", none), "is_threshold", "is_threshold", defArgs s_is_threshold, defBody s_is_threshold, defScope s_is_threshold, [], []⟩
def d_is_list : He.DefD := ⟨("is_list", none), "is_list", "is_list", defArgs s_is_list, defBody s_is_list, defScope s_is_list, [], []⟩
def d_is_width : He.DefD := ⟨("is_width", none), "is_width", "is_width", defArgs s_is_width, defBody s_is_width, defScope s_is_width, [], []⟩
def d_parts_of_grain : He.DefD := ⟨("parts_of_grain", none), "parts_of_grain", "parts_of_grain", defArgs s_parts_of_grain, defBody s_parts_of_grain, defScope s_parts_of_grain, [], []⟩
def d_in_grains : He.DefD := ⟨("in_grains", none), "in_grains", "in_grains", defArgs s_in_grains, defBody s_in_grains, defScope s_in_grains, [], []⟩
def d_is_sort : He.DefD := ⟨("is_sort", none), "is_sort", "is_sort", defArgs s_is_sort, defBody s_is_sort, defScope s_is_sort, [], []⟩
def d_are_sorts : He.DefD := ⟨("are_sorts", none), "are_sorts", "are_sorts", defArgs s_are_sorts, defBody s_are_sorts, defScope s_are_sorts, [], []⟩
def d_is_join : He.DefD := ⟨("is_join", none), "is_join", "is_join", defArgs s_is_join, defBody s_is_join, defScope s_is_join, [], []⟩
def d_is_kind : He.DefD := ⟨("is_kind", none), "is_kind", "is_kind", defArgs s_is_kind, defBody s_is_kind, defScope s_is_kind, [], []⟩
def d_runs_at : He.DefD := ⟨("runs_at", none), "runs_at", "runs_at", defArgs s_runs_at, defBody s_runs_at, defScope s_runs_at, [], []⟩
def d_swing : He.DefD := ⟨("swing", none), "swing", "swing", defArgs s_swing, defBody s_swing, defScope s_swing, [], []⟩
def d_grains_of : He.DefD := ⟨("grains_of", none), "grains_of", "grains_of", defArgs s_grains_of, defBody s_grains_of, defScope s_grains_of, [], []⟩
def d_first_breach : He.DefD := ⟨("first_breach", none), "first_breach", "first_breach", defArgs s_first_breach, defBody s_first_breach, defScope s_first_breach, [], []⟩
def d_sorts_at : He.DefD := ⟨("sorts_at", none), "sorts_at", "sorts_at", defArgs s_sorts_at, defBody s_sorts_at, defScope s_sorts_at, [], []⟩
def d_breach : He.DefD := ⟨("breach", none), "breach", "breach", defArgs s_breach, defBody s_breach, defScope s_breach, [], []⟩
def d_calm : He.DefD := ⟨("calm", none), "calm", "calm", defArgs s_calm, defBody s_calm, defScope s_calm, [], []⟩
def d_losses : He.DefD := ⟨("losses", none), "losses", "losses", defArgs s_losses, defBody s_losses, defScope s_losses, [], []⟩
def d_loss : He.DefD := ⟨("loss", none), "loss", "loss", defArgs s_loss, defBody s_loss, defScope s_loss, [], []⟩
def d__law_pool : He.DefD := ⟨("_law_pool", none), "_law_pool", "_law_pool", defArgs s__law_pool, defBody s__law_pool, defScope s__law_pool, [], []⟩
def d__law_draw : He.DefD := ⟨("_law_draw", none), "_law_draw", "_law_draw", defArgs s__law_draw, defBody s__law_draw, defScope s__law_draw, [], []⟩
def d__law_some : He.DefD := ⟨("_law_some", none), "_law_some", "_law_some", defArgs s__law_some, defBody s__law_some, defScope s__law_some, [], []⟩
def d__law_divisor : He.DefD := ⟨("_law_divisor", none), "_law_divisor", "_law_divisor", defArgs s__law_divisor, defBody s__law_divisor, defScope s__law_divisor, [], []⟩
def d__law_lowest : He.DefD := ⟨("_law_lowest", none), "_law_lowest", "_law_lowest", defArgs s__law_lowest, defBody s__law_lowest, defScope s__law_lowest, [], []⟩
def d__law_grains : He.DefD := ⟨("_law_grains", none), "_law_grains", "_law_grains", defArgs s__law_grains, defBody s__law_grains, defScope s__law_grains, [], []⟩
def d__law_room : He.DefD := ⟨("_law_room", none), "_law_room", "_law_room", defArgs s__law_room, defBody s__law_room, defScope s__law_room, [], []⟩
def d__law_pair_grains : He.DefD := ⟨("_law_pair_grains", none), "_law_pair_grains", "_law_pair_grains", defArgs s__law_pair_grains, defBody s__law_pair_grains, defScope s__law_pair_grains, [], []⟩
def d__law_sorts : He.DefD := ⟨("_law_sorts", none), "_law_sorts", "_law_sorts", defArgs s__law_sorts, defBody s__law_sorts, defScope s__law_sorts, [], []⟩
def d__law_pairs : He.DefD := ⟨("_law_pairs", none), "_law_pairs", "_law_pairs", defArgs s__law_pairs, defBody s__law_pairs, defScope s__law_pairs, [], []⟩
def d__law_list : He.DefD := ⟨("_law_list", none), "_law_list", "_law_list", defArgs s__law_list, defBody s__law_list, defScope s__law_list, [], []⟩
def d__law_ascending : He.DefD := ⟨("_law_ascending", none), "_law_ascending", "_law_ascending", defArgs s__law_ascending, defBody s__law_ascending, defScope s__law_ascending, [], []⟩
def d__law_parts_of_book : He.DefD := ⟨("_law_parts_of_book", none), "_law_parts_of_book", "_law_parts_of_book", defArgs s__law_parts_of_book, defBody s__law_parts_of_book, defScope s__law_parts_of_book, [], []⟩
def d__law_is_fraction : He.DefD := ⟨("_law_is_fraction", none), "_law_is_fraction", "_law_is_fraction", defArgs s__law_is_fraction, defBody s__law_is_fraction, defScope s__law_is_fraction, [], []⟩
def d__law_is_int : He.DefD := ⟨("_law_is_int", none), "_law_is_int", "_law_is_int", defArgs s__law_is_int, defBody s__law_is_int, defScope s__law_is_int, [], []⟩
def d__law_flag : He.DefD := ⟨("_law_flag", none), "_law_flag", "_law_flag", defArgs s__law_flag, defBody s__law_flag, defScope s__law_flag, [], []⟩
def d__law_raised : He.DefD := ⟨("_law_raised", none), "_law_raised", "_law_raised", defArgs s__law_raised, defBody s__law_raised, defScope s__law_raised, [], []⟩
def d__law_is_calm : He.DefD := ⟨("_law_is_calm", none), "_law_is_calm", "_law_is_calm", defArgs s__law_is_calm, defBody s__law_is_calm, defScope s__law_is_calm, [], []⟩
def d__law_is_right : He.DefD := ⟨("_law_is_right", none), "_law_is_right", "_law_is_right", defArgs s__law_is_right, defBody s__law_is_right, defScope s__law_is_right, [], []⟩
def d__law_moved : He.DefD := ⟨("_law_moved", none), "_law_moved", "_law_moved", defArgs s__law_moved, defBody s__law_moved, defScope s__law_moved, [], []⟩
def d_law : He.DefD := ⟨("law", none), "law", "law", defArgs s_law, defBody s_law, defScope s_law, [], []⟩
def d_book_init : He.DefD := ⟨("Book", some "__init__"), "__init__", "Book.__init__", defArgs s_book_init, defBody s_book_init, defScope s_book_init, [], []⟩
def fn1 : List He.DefD := [d_is_integer, d_is_between, d_is_pair, d_is_row, d_divisor, d_multiple, d_made, d_is_fraction, d_is_below, d_next_whole, d_is_threshold, d_is_list, d_is_width, d_parts_of_grain, d_in_grains, d_is_sort, d_are_sorts, d_is_join, d_is_kind, d_runs_at, d_swing, d_grains_of, d_first_breach, d_sorts_at, d_breach]
def fn2 : List He.DefD := [d_calm, d_losses, d_loss, d__law_pool, d__law_draw, d__law_some, d__law_divisor, d__law_lowest, d__law_grains, d__law_room, d__law_pair_grains, d__law_sorts, d__law_pairs, d__law_list, d__law_ascending, d__law_parts_of_book, d__law_is_fraction, d__law_is_int, d__law_flag, d__law_raised, d__law_is_calm, d__law_is_right, d__law_moved, d_law, d_book_init]
def fn : List He.DefD := fn1 ++ fn2
def fa0 : List He.Fa := [.glo "is_integer", .glo "is_between", .glo "is_pair", .glo "is_row", .glo "divisor", .glo "multiple", .glo "made", .glo "is_fraction", .glo "is_below", .glo "next_whole", .glo "is_threshold", .glo "is_list", .glo "is_width", .glo "parts_of_grain", .glo "in_grains", .glo "is_sort", .glo "are_sorts", .glo "is_join", .glo "is_kind", .glo "runs_at", .glo "swing", .glo "grains_of", .glo "first_breach", .glo "sorts_at", .glo "breach"]
def fa1 : List He.Fa := [.glo "calm", .glo "losses", .glo "loss", .glo "_law_pool", .glo "_law_draw", .glo "_law_some", .glo "_law_divisor", .glo "_law_lowest", .glo "_law_grains", .glo "_law_room", .glo "_law_pair_grains", .glo "_law_sorts", .glo "_law_pairs", .glo "_law_list", .glo "_law_ascending", .glo "_law_parts_of_book", .glo "_law_is_fraction", .glo "_law_is_int", .glo "_law_flag", .glo "_law_raised", .glo "_law_is_calm", .glo "_law_is_right", .glo "_law_moved", .glo "law", .free "isinstance"]
def fa2 : List He.Fa := [.free "int", .free "bool", .free "tuple", .free "len", .free "all", .free "any", .free "abs", .free "max", .free "list", .free "range", .free "zip", .free "enumerate", .free "sum", .int "MOST_THRESHOLDS" 6, .int "MOST_TOP" 1000000, .int "MOST_BOTTOM" 144, .int "MOST_WIDTH" 12, .int "MOST_SORTS" 4, .int "MOST_KINDS" 5, .int "MOST_CAP" 6, .glo "Book", .cls "Book", .noat "Book" "sorts", .noat "Book" "kinds", .mkr "Book"]
def fa : List He.Fa := fa0 ++ fa1 ++ fa2
def loose0 : List Str := ["is_integer", "is_between", "is_pair", "is_row", "divisor", "multiple", "made", "is_fraction", "is_below", "next_whole", "is_threshold", "is_list", "is_width", "parts_of_grain", "in_grains", "is_sort", "are_sorts", "is_join", "is_kind", "runs_at"]
def loose1 : List Str := ["swing", "grains_of", "first_breach", "sorts_at", "breach", "calm", "losses", "loss", "_law_pool", "_law_draw", "_law_some", "_law_divisor", "_law_lowest", "_law_grains", "_law_room", "_law_pair_grains", "_law_sorts", "_law_pairs", "_law_list", "_law_ascending"]
def loose2 : List Str := ["_law_parts_of_book", "_law_is_fraction", "_law_is_int", "_law_flag", "_law_raised", "_law_is_calm", "_law_is_right", "_law_moved", "MOST_THRESHOLDS", "MOST_TOP", "MOST_BOTTOM", "MOST_WIDTH", "MOST_SORTS", "MOST_KINDS", "MOST_CAP", "TidesError", "BadBook", "NotCalm", "Book"]
def loose : List Str := loose0 ++ loose1 ++ loose2
abbrev R : PySem.W.OpenRow := PySem.W.OpenLaw.row PySem.Challenge.rw_twotides_k30_whole_calm_by_rounded_thres
abbrev hk : PySem.W.Hook := He.hookD 5 fa fn
def ob (s : PySem.W.SharedT) : He.AlD := He.obsDG 5 fa fn (HandSHeadRun.getT s)
theorem ob_eq (s : PySem.W.SharedT) : ob s = hk.obs s.abs := He.obsDG_eq (HandSHeadRun.getT_eq s)
theorem run (w : World) : HandSHeadRun.RunEq R (PySem.W.view R.prog [67]) hk ob 3000 loose w := by
  intro os
  kernel_rfl
end K30
set_option Elab.async false
set_option linter.all false
set_option maxRecDepth 100000
set_option maxHeartbeats 0
namespace K30
open PySem PySem.Spec PyProof.Rows L2
/-! ### the end: from the head's facts -/
section
variable {P : Program} {w : World} {K : PySem.W.Frag} {mg : Str → Option Value} {base h : Heap}
theorem def_at (X : K.In h) (G : h.Ns mainGlobals mg) (c : He.SaysD fa fn K) (i j : Nat) {d : He.DefD} {x : Str} {st : Stmt} {ps : List Str} (hd : fn[i]? = some d) (hg : fa[j]? = some (.glo x)) (e : d = ⟨(x, none), x, x, defArgs st, defBody st, defScope st, [], []⟩)
    (hb : ∀ (kV doc pm : Value) (an : Option Addr) (cdv ct : Value) (us : List Value), us.length = ps.length → bindArgs (PySem.W.fnOf x x (defArgs st) (defBody st) (defScope st) .none kV doc pm an cdv ct) ⟨us, []⟩ = pure (ps.zip us)) : DefAt K mg x st ps := by
  subst e
  obtain ⟨fd, F⟩ := c.def_ i hd
  exact ⟨_, fd, F, He.glo_ok X G (c.fact j hg), FunD.bindsN F hb⟩
theorem at_is_integer (X : K.In h) (G : h.Ns mainGlobals mg) (c : He.SaysD fa fn K) : DefAt K mg "is_integer" s_is_integer ["thing"] := def_at X G c 0 0 (d := d_is_integer) rfl rfl rfl fun _ _ _ _ _ _ us hl => match us, hl with | [_], _ => rfl
theorem at_is_between (X : K.In h) (G : h.Ns mainGlobals mg) (c : He.SaysD fa fn K) : DefAt K mg "is_between" s_is_between ["thing", "least", "most"] := def_at X G c 1 1 (d := d_is_between) rfl rfl rfl fun _ _ _ _ _ _ us hl => match us, hl with | [_, _, _], _ => rfl
theorem at_is_pair (X : K.In h) (G : h.Ns mainGlobals mg) (c : He.SaysD fa fn K) : DefAt K mg "is_pair" s_is_pair ["thing"] := def_at X G c 2 2 (d := d_is_pair) rfl rfl rfl fun _ _ _ _ _ _ us hl => match us, hl with | [_], _ => rfl
theorem at_is_row (X : K.In h) (G : h.Ns mainGlobals mg) (c : He.SaysD fa fn K) : DefAt K mg "is_row" s_is_row ["thing", "many"] := def_at X G c 3 3 (d := d_is_row) rfl rfl rfl fun _ _ _ _ _ _ us hl => match us, hl with | [_, _], _ => rfl
theorem at_divisor (X : K.In h) (G : h.Ns mainGlobals mg) (c : He.SaysD fa fn K) : DefAt K mg "divisor" s_divisor ["one", "other"] := def_at X G c 4 4 (d := d_divisor) rfl rfl rfl fun _ _ _ _ _ _ us hl => match us, hl with | [_, _], _ => rfl
theorem at_multiple (X : K.In h) (G : h.Ns mainGlobals mg) (c : He.SaysD fa fn K) : DefAt K mg "multiple" s_multiple ["one", "other"] := def_at X G c 5 5 (d := d_multiple) rfl rfl rfl fun _ _ _ _ _ _ us hl => match us, hl with | [_, _], _ => rfl
theorem at_made (X : K.In h) (G : h.Ns mainGlobals mg) (c : He.SaysD fa fn K) : DefAt K mg "made" s_made ["top", "bottom"] := def_at X G c 6 6 (d := d_made) rfl rfl rfl fun _ _ _ _ _ _ us hl => match us, hl with | [_, _], _ => rfl
theorem at_is_fraction (X : K.In h) (G : h.Ns mainGlobals mg) (c : He.SaysD fa fn K) : DefAt K mg "is_fraction" s_is_fraction ["thing"] := def_at X G c 7 7 (d := d_is_fraction) rfl rfl rfl fun _ _ _ _ _ _ us hl => match us, hl with | [_], _ => rfl
theorem at_is_below (X : K.In h) (G : h.Ns mainGlobals mg) (c : He.SaysD fa fn K) : DefAt K mg "is_below" s_is_below ["one", "other"] := def_at X G c 8 8 (d := d_is_below) rfl rfl rfl fun _ _ _ _ _ _ us hl => match us, hl with | [_, _], _ => rfl
theorem at_next_whole (X : K.In h) (G : h.Ns mainGlobals mg) (c : He.SaysD fa fn K) : DefAt K mg "next_whole" s_next_whole ["one"] := def_at X G c 9 9 (d := d_next_whole) rfl rfl rfl fun _ _ _ _ _ _ us hl => match us, hl with | [_], _ => rfl
theorem at_is_threshold (X : K.In h) (G : h.Ns mainGlobals mg) (c : He.SaysD fa fn K) : DefAt K mg "is_threshold" s_is_threshold ["thing"] := def_at X G c 10 10 (d := d_is_threshold) rfl rfl rfl fun _ _ _ _ _ _ us hl => match us, hl with | [_], _ => rfl
theorem at_is_list (X : K.In h) (G : h.Ns mainGlobals mg) (c : He.SaysD fa fn K) : DefAt K mg "is_list" s_is_list ["thing"] := def_at X G c 11 11 (d := d_is_list) rfl rfl rfl fun _ _ _ _ _ _ us hl => match us, hl with | [_], _ => rfl
theorem at_is_width (X : K.In h) (G : h.Ns mainGlobals mg) (c : He.SaysD fa fn K) : DefAt K mg "is_width" s_is_width ["thing"] := def_at X G c 12 12 (d := d_is_width) rfl rfl rfl fun _ _ _ _ _ _ us hl => match us, hl with | [_], _ => rfl
theorem at_parts_of_grain (X : K.In h) (G : h.Ns mainGlobals mg) (c : He.SaysD fa fn K) : DefAt K mg "parts_of_grain" s_parts_of_grain ["width", "other"] := def_at X G c 13 13 (d := d_parts_of_grain) rfl rfl rfl fun _ _ _ _ _ _ us hl => match us, hl with | [_, _], _ => rfl
theorem at_in_grains (X : K.In h) (G : h.Ns mainGlobals mg) (c : He.SaysD fa fn K) : DefAt K mg "in_grains" s_in_grains ["steps", "grains"] := def_at X G c 14 14 (d := d_in_grains) rfl rfl rfl fun _ _ _ _ _ _ us hl => match us, hl with | [_, _], _ => rfl
theorem at_is_sort (X : K.In h) (G : h.Ns mainGlobals mg) (c : He.SaysD fa fn K) : DefAt K mg "is_sort" s_is_sort ["thing"] := def_at X G c 15 15 (d := d_is_sort) rfl rfl rfl fun _ _ _ _ _ _ us hl => match us, hl with | [_], _ => rfl
theorem at_are_sorts (X : K.In h) (G : h.Ns mainGlobals mg) (c : He.SaysD fa fn K) : DefAt K mg "are_sorts" s_are_sorts ["thing"] := def_at X G c 16 16 (d := d_are_sorts) rfl rfl rfl fun _ _ _ _ _ _ us hl => match us, hl with | [_], _ => rfl
theorem at_is_join (X : K.In h) (G : h.Ns mainGlobals mg) (c : He.SaysD fa fn K) : DefAt K mg "is_join" s_is_join ["thing", "sorts"] := def_at X G c 17 17 (d := d_is_join) rfl rfl rfl fun _ _ _ _ _ _ us hl => match us, hl with | [_, _], _ => rfl
theorem at_is_kind (X : K.In h) (G : h.Ns mainGlobals mg) (c : He.SaysD fa fn K) : DefAt K mg "is_kind" s_is_kind ["thing", "sorts"] := def_at X G c 18 18 (d := d_is_kind) rfl rfl rfl fun _ _ _ _ _ _ us hl => match us, hl with | [_, _], _ => rfl
theorem at_runs_at (X : K.In h) (G : h.Ns mainGlobals mg) (c : He.SaysD fa fn K) : DefAt K mg "runs_at" s_runs_at ["units", "number"] := def_at X G c 19 19 (d := d_runs_at) rfl rfl rfl fun _ _ _ _ _ _ us hl => match us, hl with | [_, _], _ => rfl
theorem at_swing (X : K.In h) (G : h.Ns mainGlobals mg) (c : He.SaysD fa fn K) : DefAt K mg "swing" s_swing ["one", "other", "grains"] := def_at X G c 20 20 (d := d_swing) rfl rfl rfl fun _ _ _ _ _ _ us hl => match us, hl with | [_, _, _], _ => rfl
theorem at_grains_of (X : K.In h) (G : h.Ns mainGlobals mg) (c : He.SaysD fa fn K) : DefAt K mg "grains_of" s_grains_of ["one", "other"] := def_at X G c 21 21 (d := d_grains_of) rfl rfl rfl fun _ _ _ _ _ _ us hl => match us, hl with | [_, _], _ => rfl
theorem at_first_breach (X : K.In h) (G : h.Ns mainGlobals mg) (c : He.SaysD fa fn K) : DefAt K mg "first_breach" s_first_breach ["steps", "one", "other"] := def_at X G c 22 22 (d := d_first_breach) rfl rfl rfl fun _ _ _ _ _ _ us hl => match us, hl with | [_, _, _], _ => rfl
theorem at_sorts_at (X : K.In h) (G : h.Ns mainGlobals mg) (c : He.SaysD fa fn K) : DefAt K mg "sorts_at" s_sorts_at ["book", "pair"] := def_at X G c 23 23 (d := d_sorts_at) rfl rfl rfl fun _ _ _ _ _ _ us hl => match us, hl with | [_, _], _ => rfl
theorem at_breach (X : K.In h) (G : h.Ns mainGlobals mg) (c : He.SaysD fa fn K) : DefAt K mg "breach" s_breach ["book"] := def_at X G c 24 24 (d := d_breach) rfl rfl rfl fun _ _ _ _ _ _ us hl => match us, hl with | [_], _ => rfl
theorem at_calm (X : K.In h) (G : h.Ns mainGlobals mg) (c : He.SaysD fa fn K) : DefAt K mg "calm" s_calm ["book"] := def_at X G c 25 25 (d := d_calm) rfl rfl rfl fun _ _ _ _ _ _ us hl => match us, hl with | [_], _ => rfl
theorem at_losses (X : K.In h) (G : h.Ns mainGlobals mg) (c : He.SaysD fa fn K) : DefAt K mg "losses" s_losses ["book", "capped"] := def_at X G c 26 26 (d := d_losses) rfl rfl rfl fun _ _ _ _ _ _ us hl => match us, hl with | [_, _], _ => rfl
theorem at_loss (X : K.In h) (G : h.Ns mainGlobals mg) (c : He.SaysD fa fn K) : DefAt K mg "loss" s_loss ["book"] := def_at X G c 27 27 (d := d_loss) rfl rfl rfl fun _ _ _ _ _ _ us hl => match us, hl with | [_], _ => rfl
theorem at__law_pool (X : K.In h) (G : h.Ns mainGlobals mg) (c : He.SaysD fa fn K) : DefAt K mg "_law_pool" s__law_pool ["_law_script"] := def_at X G c 28 28 (d := d__law_pool) rfl rfl rfl fun _ _ _ _ _ _ us hl => match us, hl with | [_], _ => rfl
theorem at__law_draw (X : K.In h) (G : h.Ns mainGlobals mg) (c : He.SaysD fa fn K) : DefAt K mg "_law_draw" s__law_draw ["_law_pool_here", "_law_many"] := def_at X G c 29 29 (d := d__law_draw) rfl rfl rfl fun _ _ _ _ _ _ us hl => match us, hl with | [_, _], _ => rfl
theorem at__law_some (X : K.In h) (G : h.Ns mainGlobals mg) (c : He.SaysD fa fn K) : DefAt K mg "_law_some" s__law_some ["_law_pool_here", "_law_things"] := def_at X G c 30 30 (d := d__law_some) rfl rfl rfl fun _ _ _ _ _ _ us hl => match us, hl with | [_, _], _ => rfl
theorem at__law_divisor (X : K.In h) (G : h.Ns mainGlobals mg) (c : He.SaysD fa fn K) : DefAt K mg "_law_divisor" s__law_divisor ["_law_one", "_law_other"] := def_at X G c 31 31 (d := d__law_divisor) rfl rfl rfl fun _ _ _ _ _ _ us hl => match us, hl with | [_, _], _ => rfl
theorem at__law_lowest (X : K.In h) (G : h.Ns mainGlobals mg) (c : He.SaysD fa fn K) : DefAt K mg "_law_lowest" s__law_lowest ["_law_top", "_law_bottom"] := def_at X G c 32 32 (d := d__law_lowest) rfl rfl rfl fun _ _ _ _ _ _ us hl => match us, hl with | [_, _], _ => rfl
theorem at__law_grains (X : K.In h) (G : h.Ns mainGlobals mg) (c : He.SaysD fa fn K) : DefAt K mg "_law_grains" s__law_grains ["_law_width", "_law_other"] := def_at X G c 33 33 (d := d__law_grains) rfl rfl rfl fun _ _ _ _ _ _ us hl => match us, hl with | [_, _], _ => rfl
theorem at__law_room (X : K.In h) (G : h.Ns mainGlobals mg) (c : He.SaysD fa fn K) : DefAt K mg "_law_room" s__law_room ["_law_sorts_here", "_law_pair", "_law_grains_here"] := def_at X G c 34 34 (d := d__law_room) rfl rfl rfl fun _ _ _ _ _ _ us hl => match us, hl with | [_, _, _], _ => rfl
theorem at__law_pair_grains (X : K.In h) (G : h.Ns mainGlobals mg) (c : He.SaysD fa fn K) : DefAt K mg "_law_pair_grains" s__law_pair_grains ["_law_sorts_here", "_law_pair"] := def_at X G c 35 35 (d := d__law_pair_grains) rfl rfl rfl fun _ _ _ _ _ _ us hl => match us, hl with | [_, _], _ => rfl
theorem at__law_sorts (X : K.In h) (G : h.Ns mainGlobals mg) (c : He.SaysD fa fn K) : DefAt K mg "_law_sorts" s__law_sorts ["_law_pool_here"] := def_at X G c 36 36 (d := d__law_sorts) rfl rfl rfl fun _ _ _ _ _ _ us hl => match us, hl with | [_], _ => rfl
theorem at__law_pairs (X : K.In h) (G : h.Ns mainGlobals mg) (c : He.SaysD fa fn K) : DefAt K mg "_law_pairs" s__law_pairs ["_law_sorts_here"] := def_at X G c 37 37 (d := d__law_pairs) rfl rfl rfl fun _ _ _ _ _ _ us hl => match us, hl with | [_], _ => rfl
theorem at__law_list (X : K.In h) (G : h.Ns mainGlobals mg) (c : He.SaysD fa fn K) : DefAt K mg "_law_list" s__law_list ["_law_pool_here", "_law_sorts_here", "_law_pair"] := def_at X G c 38 38 (d := d__law_list) rfl rfl rfl fun _ _ _ _ _ _ us hl => match us, hl with | [_, _, _], _ => rfl
theorem at__law_ascending (X : K.In h) (G : h.Ns mainGlobals mg) (c : He.SaysD fa fn K) : DefAt K mg "_law_ascending" s__law_ascending ["_law_steps"] := def_at X G c 39 39 (d := d__law_ascending) rfl rfl rfl fun _ _ _ _ _ _ us hl => match us, hl with | [_], _ => rfl
theorem at__law_parts_of_book (X : K.In h) (G : h.Ns mainGlobals mg) (c : He.SaysD fa fn K) : DefAt K mg "_law_parts_of_book" s__law_parts_of_book ["_law_pool_here"] := def_at X G c 40 40 (d := d__law_parts_of_book) rfl rfl rfl fun _ _ _ _ _ _ us hl => match us, hl with | [_], _ => rfl
theorem at__law_is_fraction (X : K.In h) (G : h.Ns mainGlobals mg) (c : He.SaysD fa fn K) : DefAt K mg "_law_is_fraction" s__law_is_fraction ["_law_thing"] := def_at X G c 41 41 (d := d__law_is_fraction) rfl rfl rfl fun _ _ _ _ _ _ us hl => match us, hl with | [_], _ => rfl
theorem at__law_is_int (X : K.In h) (G : h.Ns mainGlobals mg) (c : He.SaysD fa fn K) : DefAt K mg "_law_is_int" s__law_is_int ["_law_thing"] := def_at X G c 42 42 (d := d__law_is_int) rfl rfl rfl fun _ _ _ _ _ _ us hl => match us, hl with | [_], _ => rfl
theorem at__law_flag (X : K.In h) (G : h.Ns mainGlobals mg) (c : He.SaysD fa fn K) : DefAt K mg "_law_flag" s__law_flag ["_law_told", "_law_due"] := def_at X G c 43 43 (d := d__law_flag) rfl rfl rfl fun _ _ _ _ _ _ us hl => match us, hl with | [_, _], _ => rfl
theorem at__law_raised (X : K.In h) (G : h.Ns mainGlobals mg) (c : He.SaysD fa fn K) : DefAt K mg "_law_raised" s__law_raised ["_law_steps", "_law_grains_here"] := def_at X G c 44 44 (d := d__law_raised) rfl rfl rfl fun _ _ _ _ _ _ us hl => match us, hl with | [_, _], _ => rfl
theorem at__law_is_calm (X : K.In h) (G : h.Ns mainGlobals mg) (c : He.SaysD fa fn K) : DefAt K mg "_law_is_calm" s__law_is_calm ["_law_sorts_here", "_law_kinds"] := def_at X G c 45 45 (d := d__law_is_calm) rfl rfl rfl fun _ _ _ _ _ _ us hl => match us, hl with | [_, _], _ => rfl
theorem at__law_is_right (X : K.In h) (G : h.Ns mainGlobals mg) (c : He.SaysD fa fn K) : DefAt K mg "_law_is_right" s__law_is_right ["_law_sorts_here", "_law_kinds"] := def_at X G c 46 46 (d := d__law_is_right) rfl rfl rfl fun _ _ _ _ _ _ us hl => match us, hl with | [_, _], _ => rfl
theorem at__law_moved (X : K.In h) (G : h.Ns mainGlobals mg) (c : He.SaysD fa fn K) : DefAt K mg "_law_moved" s__law_moved ["_law_pool_here", "_law_sorts_here", "_law_kinds"] := def_at X G c 47 47 (d := d__law_moved) rfl rfl rfl fun _ _ _ _ _ _ us hl => match us, hl with | [_, _, _], _ => rfl
theorem blt_of (X : K.In h) (G : h.Ns mainGlobals mg) (c : He.SaysD fa fn K) : Blt mg where
  b_isinstance := He.free_ok X G (c.fact 49 (f := .free "isinstance") rfl)
  b_int := He.free_ok X G (c.fact 50 (f := .free "int") rfl)
  b_bool := He.free_ok X G (c.fact 51 (f := .free "bool") rfl)
  b_tuple := He.free_ok X G (c.fact 52 (f := .free "tuple") rfl)
  b_len := He.free_ok X G (c.fact 53 (f := .free "len") rfl)
  b_all := He.free_ok X G (c.fact 54 (f := .free "all") rfl)
  b_any := He.free_ok X G (c.fact 55 (f := .free "any") rfl)
  b_abs := He.free_ok X G (c.fact 56 (f := .free "abs") rfl)
  b_max := He.free_ok X G (c.fact 57 (f := .free "max") rfl)
  b_list := He.free_ok X G (c.fact 58 (f := .free "list") rfl)
  b_range := He.free_ok X G (c.fact 59 (f := .free "range") rfl)
  b_zip := He.free_ok X G (c.fact 60 (f := .free "zip") rfl)
  b_enumerate := He.free_ok X G (c.fact 61 (f := .free "enumerate") rfl)
  b_sum := He.free_ok X G (c.fact 62 (f := .free "sum") rfl)
  n_MOST_THRESHOLDS := He.int_ok X G (c.fact 63 (f := .int "MOST_THRESHOLDS" 6) rfl)
  n_MOST_TOP := He.int_ok X G (c.fact 64 (f := .int "MOST_TOP" 1000000) rfl)
  n_MOST_BOTTOM := He.int_ok X G (c.fact 65 (f := .int "MOST_BOTTOM" 144) rfl)
  n_MOST_WIDTH := He.int_ok X G (c.fact 66 (f := .int "MOST_WIDTH" 12) rfl)
  n_MOST_SORTS := He.int_ok X G (c.fact 67 (f := .int "MOST_SORTS" 4) rfl)
  n_MOST_KINDS := He.int_ok X G (c.fact 68 (f := .int "MOST_KINDS" 5) rfl)
  n_MOST_CAP := He.int_ok X G (c.fact 69 (f := .int "MOST_CAP" 6) rfl)
theorem book_at (X : K.In h) (G : h.Ns mainGlobals mg) (c : He.SaysD fa fn K) : BookAt K mg (He.ga K "Book") := by
  obtain ⟨fd, F⟩ := c.def_ 49 (d := d_book_init) rfl
  exact ⟨⟨He.cls_ok (c.fact 71 (f := .cls "Book") rfl), He.noat_ok (c.fact 72 (f := .noat "Book" "sorts") rfl), He.noat_ok (c.fact 73 (f := .noat "Book" "kinds") rfl)⟩, He.glo_ok X G (c.fact 70 (f := .glo "Book") rfl),
    _, fd, He.mkr_ok (c.fact 74 (f := .mkr "Book") rfl), F, FunD.bindsN F fun _ _ _ _ _ _ us hl => match us, hl with | [_, _, _], _ => rfl⟩
theorem facts {f : Addr} (X : K.In h) (G : h.Ns mainGlobals mg) (hfa : mg ("law" : Str) = some (.ref f)) (c : He.SaysD fa fn K) :
    ∃ fd : FuncData, (∀ (s : Shared) (v : Value), BindsTo s fd ⟨[v], []⟩ [("_law_script", v)]) ∧ ∀ base : Heap, K.In base → base.Ns mainGlobals mg → FnOk P w K mg base CX0 10 f fd ["_law_script"] (sp_law K) := by
  obtain ⟨fd, F⟩ := c.def_ 48 (d := d_law) rfl
  have e := hfa.symm.trans (He.glo_ok X G (c.fact 48 (f := .glo "law") rfl))
  cases e
  have b := FunD.bindsA (ps := ["_law_script"]) F fun _ _ _ _ _ _ us hl => match us, hl with | [_], _ => rfl
  refine ⟨fd, fun s v => b s [v] rfl, fun base _ _ => ?_⟩
  have T := blt_of X G c
  have B := book_at X G c
  have c__law_pool := ok__law_pool (P := P) (w := w) (base := base) T (at__law_pool X G c)
  have c__law_draw := ok__law_draw (P := P) (w := w) (base := base) T (at__law_draw X G c)
  have c__law_some := ok__law_some (P := P) (w := w) (base := base) T (at__law_some X G c) c__law_draw
  have c__law_sorts := ok__law_sorts (P := P) (w := w) (base := base) T (at__law_sorts X G c) c__law_draw c__law_some
  have c__law_pairs := ok__law_pairs (P := P) (w := w) (base := base) T (at__law_pairs X G c)
  have c__law_divisor := ok__law_divisor (P := P) (w := w) (base := base) T (at__law_divisor X G c)
  have c__law_grains := ok__law_grains (P := P) (w := w) (base := base) T (at__law_grains X G c) c__law_divisor
  have c__law_pair_grains := ok__law_pair_grains (P := P) (w := w) (base := base) T (at__law_pair_grains X G c) c__law_grains
  have c__law_room := ok__law_room (P := P) (w := w) (base := base) T (at__law_room X G c)
  have c__law_lowest := ok__law_lowest (P := P) (w := w) (base := base) T (at__law_lowest X G c) c__law_divisor
  have c__law_ascending := ok__law_ascending (P := P) (w := w) (base := base) T (at__law_ascending X G c)
  have c__law_list := ok__law_list (P := P) (w := w) (base := base) T (at__law_list X G c) c__law_draw c__law_pair_grains c__law_room c__law_lowest c__law_ascending
  have c__law_parts_of_book := ok__law_parts_of_book (P := P) (w := w) (base := base) T (at__law_parts_of_book X G c) c__law_draw c__law_some c__law_sorts c__law_pairs c__law_list
  have c_is_pair := ok_is_pair (P := P) (w := w) (base := base) T (at_is_pair X G c)
  have c_is_integer := ok_is_integer (P := P) (w := w) (base := base) T (at_is_integer X G c)
  have c_is_between := ok_is_between (P := P) (w := w) (base := base) T (at_is_between X G c) c_is_integer
  have c_is_width := ok_is_width (P := P) (w := w) (base := base) T (at_is_width X G c) c_is_between
  have c_is_sort := ok_is_sort (P := P) (w := w) (base := base) T (at_is_sort X G c) c_is_pair c_is_width c_is_between
  have c_are_sorts := ok_are_sorts (P := P) (w := w) (base := base) T (at_are_sorts X G c) c_is_sort
  have c_divisor := ok_divisor (P := P) (w := w) (base := base) T (at_divisor X G c)
  have c_is_fraction := ok_is_fraction (P := P) (w := w) (base := base) T (at_is_fraction X G c) c_divisor c_is_pair c_is_integer
  have c_is_threshold := ok_is_threshold (P := P) (w := w) (base := base) T (at_is_threshold X G c) c_is_fraction
  have c_is_below := ok_is_below (P := P) (w := w) (base := base) T (at_is_below X G c)
  have c_is_list := ok_is_list (P := P) (w := w) (base := base) T (at_is_list X G c) c_is_threshold c_is_below
  have c_is_row := ok_is_row (P := P) (w := w) (base := base) T (at_is_row X G c) c_is_integer
  have c_is_join := ok_is_join (P := P) (w := w) (base := base) T (at_is_join X G c) c_is_row
  have c_is_kind := ok_is_kind (P := P) (w := w) (base := base) T (at_is_kind X G c) c_is_pair c_is_list c_is_join
  have c_Book := ok_book (P := P) (w := w) (base := base) T B c_are_sorts c_is_kind
  have c__law_raised := ok__law_raised (P := P) (w := w) (base := base) T (at__law_raised X G c)
  have c__law_is_calm := ok__law_is_calm (P := P) (w := w) (base := base) T (at__law_is_calm X G c) c__law_pair_grains c__law_room c__law_raised
  have c_sorts_at := ok_sorts_at (P := P) (w := w) (base := base) T B.1 (at_sorts_at X G c)
  have c_multiple := ok_multiple (P := P) (w := w) (base := base) T (at_multiple X G c) c_divisor
  have c_parts_of_grain := ok_parts_of_grain (P := P) (w := w) (base := base) T (at_parts_of_grain X G c) c_multiple
  have c_grains_of := ok_grains_of (P := P) (w := w) (base := base) T (at_grains_of X G c) c_parts_of_grain
  have c_swing := ok_swing (P := P) (w := w) (base := base) T (at_swing X G c)
  have c_made := ok_made (P := P) (w := w) (base := base) T (at_made X G c) c_divisor
  have c_next_whole := ok_next_whole (P := P) (w := w) (base := base) T (at_next_whole X G c)
  have c_in_grains := ok_in_grains (P := P) (w := w) (base := base) T (at_in_grains X G c) c_made c_next_whole
  have c_runs_at := ok_runs_at (P := P) (w := w) (base := base) T (at_runs_at X G c)
  have c_first_breach := ok_first_breach (P := P) (w := w) (base := base) T (at_first_breach X G c) c_grains_of c_swing c_in_grains c_runs_at
  have c_breach := ok_breach (P := P) (w := w) (base := base) T B.1 (at_breach X G c) c_sorts_at c_first_breach c_made c_grains_of
  have c_calm := ok_calm (P := P) (w := w) (base := base) T (at_calm X G c) c_breach
  have c_losses := ok_losses (P := P) (w := w) (base := base) T B.1 (at_losses X G c) c_sorts_at c_grains_of c_swing c_in_grains c_runs_at c_made
  have c_loss := ok_loss (P := P) (w := w) (base := base) T (at_loss X G c) c_calm c_losses c_is_below
  have c__law_flag := ok__law_flag (P := P) (w := w) (base := base) T (at__law_flag X G c)
  have c__law_is_int := ok__law_is_int (P := P) (w := w) (base := base) T (at__law_is_int X G c)
  have c__law_is_fraction := ok__law_is_fraction (P := P) (w := w) (base := base) T (at__law_is_fraction X G c) c__law_is_int c__law_lowest
  have c__law_is_right := ok__law_is_right (P := P) (w := w) (base := base) T (at__law_is_right X G c) c_Book c__law_is_calm c_breach c_calm c_loss c__law_flag c__law_is_fraction c__law_pair_grains c__law_raised c__law_lowest
  have c__law_moved := ok__law_moved (P := P) (w := w) (base := base) T (at__law_moved X G c) c__law_draw c__law_some c__law_pair_grains c__law_lowest c__law_ascending
  exact ok_law T F c__law_pool c__law_parts_of_book c__law_is_right c__law_moved
end
end K30
open PySem PySem.W PySem.Calls PyProof.Rows
theorem PySem.Challenge.cw_twotides_k30_whole_calm_by_rounded_thres_holds : PySem.Challenge.rw_twotides_k30_whole_calm_by_rounded_thres.Holds := by
  w_on; o_law
  refine HandSHeadRun.head_any (r := OpenLaw.row PySem.Challenge.rw_twotides_k30_whole_calm_by_rounded_thres) (q := view (OpenLaw.row PySem.Challenge.rw_twotides_k30_whole_calm_by_rounded_thres).prog [67]) (H := K30.hk) (ob := K30.ob) (M := 3000) (loose := K30.loose) (d := HandSHeadRun.topDef (OpenLaw.row PySem.Challenge.rw_twotides_k30_whole_calm_by_rounded_thres).prog 67) (kwd := []) K30.ob_eq
    (by kernel_rfl) (fun s => by kernel_rfl) K30.run (by kernel_rfl) (by kernel_rfl) (by kernel_rfl) (by rfl) (by first | assumption | decide +kernel) (by decide +kernel) ⟨rfl, rfl, rfl, rfl, rfl, by decide +kernel⟩ ?hw ?hc
  case hw => w_witness2
  case hc =>
    refine L2.walk_ofE (l := PySem.Challenge.rw_twotides_k30_whole_calm_by_rounded_thres) (n := 63) (k := 10) (x := "_law_script") (CX := L2.CX0) rfl (by decide) (by kernel_rfl) ⟨rfl, by decide, by decide⟩ ?F (fun _ _ _ _ z => z)
    intro w mg fa h Y G hmg0
    obtain ⟨K, KX, c⟩ := Y
    have hmg : mg ("law" : PySem.Str) = some (.ref fa) := by
      have e : (HandSHeadRun.topDef (OpenLaw.row PySem.Challenge.rw_twotides_k30_whole_calm_by_rounded_thres).prog 67).name = ("law" : PySem.Str) := by kernel_rfl
      rw [← e]
      exact hmg0
    obtain ⟨fd, hb, hF⟩ := K30.facts (P := (PySem.Challenge.rw_twotides_k30_whole_calm_by_rounded_thres).prog) (w := w) KX G hmg c
    exact ⟨K, fd, K30.sp_law K, KX, hb, fun H a ns hl _ hS => ⟨_, rfl, a, ns, rfl, hS, hl, fun _ => rfl⟩, hF⟩
