import PyProof.Rows.All
import Wide.All
import OpenK.AllK
import Wide.FinOn
import HandS.ForMost
import KE.GoesEnum
import KE.KDictDisplayH
import HandS.TupSets
import HandS.DictTup
import KE.SortData
import KE.KDictSum
import KE.KDictCopyH
import HandS.IsInst
import HandS.TupLe
import HandS.TupAny
import HandS.TupLen
import HandS.Wide
import HandS.EndBits
import HandS.Style
import HandS.Zip
import HandS.Conv
import PySem.Challenge.RW_clockadds_k04_whole_dials_that_come
import HandS.Deep
set_option Elab.async false
/-! Clocks, arrows, steps: reach of clocks, reach of dials, and what can be added where. -/
namespace Ca
abbrev Arrs := List (Nat × Nat)

/-- arrows lead from one clock to another one (or it is the same) -/
inductive Rch (as : Arrs) : Nat → Nat → Prop
  | refl (u : Nat) : Rch as u u
  | step {u v w : Nat} : Rch as u v → (v, w) ∈ as → Rch as u w
theorem Rch.trans {as : Arrs} {u v w : Nat} (h : Rch as u v) (h' : Rch as v w) : Rch as u w := by
  induction h' with
  | refl => exact h
  | step _ m ih => exact .step ih m
theorem Rch.one {as : Arrs} {u v : Nat} (h : (u, v) ∈ as) : Rch as u v := .step (.refl u) h

def WebOk (n : Nat) (as : Arrs) : Prop := ∀ a ∈ as, a.1 < n ∧ a.2 < n ∧ a.1 ≠ a.2
theorem Rch.lt {n : Nat} {as : Arrs} (ok : WebOk n as) {u v : Nat} (h : Rch as u v) (hu : u < n) : v < n := by
  induction h with
  | refl => exact hu
  | step _ m _ => exact (ok _ m).2.1
theorem Rch.lt' {n : Nat} {as : Arrs} (ok : WebOk n as) {u v : Nat} (h : Rch as u v) (hv : v < n) : u < n := by
  induction h with
  | refl => exact hv
  | step _ m ih => exact ih (ok _ m).1

/-! ### dials and steps -/
def stp (k : Nat) (d : List Nat) (a : Nat × Nat) : List Nat := d.set a.2 ((d.getD a.2 0 + d.getD a.1 0) % k)
inductive Rea (k : Nat) (as : Arrs) : List Nat → List Nat → Prop
  | refl (d : List Nat) : Rea k as d d
  | step {d e : List Nat} {a : Nat × Nat} : Rea k as d e → a ∈ as → Rea k as d (stp k e a)
theorem Rea.trans {k : Nat} {as : Arrs} {d e f : List Nat} (h : Rea k as d e) (h' : Rea k as e f) : Rea k as d f := by
  induction h' with
  | refl => exact h
  | step _ m ih => exact .step ih m
structure IsDial (n k : Nat) (d : List Nat) : Prop where
  len : d.length = n
  lt : ∀ x ∈ d, x < k
theorem IsDial.getD {n k i : Nat} {d : List Nat} (h : IsDial n k d) (hi : i < n) : d.getD i 0 < k := by
  have hi' : i < d.length := by rw [h.len]; exact hi
  rw [List.getD_eq_getElem?_getD, List.getElem?_eq_getElem hi']
  exact h.lt _ (List.getElem_mem hi')
theorem IsDial.stp {n k : Nat} {d : List Nat} (h : IsDial n k d) (hk : 0 < k) (a : Nat × Nat) : IsDial n k (Ca.stp k d a) := by
  refine ⟨by unfold Ca.stp; rw [List.length_set]; exact h.len, fun x hx => ?_⟩
  unfold Ca.stp at hx
  rcases List.mem_or_eq_of_mem_set hx with q | q
  · exact h.lt x q
  · rw [q]; exact Nat.mod_lt _ hk
theorem Rea.dial {n k : Nat} {as : Arrs} {d e : List Nat} (h : Rea k as d e) (hk : 0 < k) (hd : IsDial n k d) : IsDial n k e := by
  induction h with
  | refl => exact hd
  | step _ _ ih => exact ih.stp hk _
theorem getD_set (l : List Nat) (i j x : Nat) : (l.set i x).getD j 0 = if i = j ∧ i < l.length then x else l.getD j 0 := by
  rw [List.getD_eq_getElem?_getD, List.getElem?_set, List.getD_eq_getElem?_getD]
  by_cases h : i = j
  · subst h
    by_cases h2 : i < l.length
    · simp [h2]
    · simp [h2]
  · simp [h]
theorem ext_getD {n : Nat} {l m : List Nat} (hl : l.length = n) (hm : m.length = n) (h : ∀ i, i < n → l.getD i 0 = m.getD i 0) : l = m := by
  refine List.ext_getElem (hl.trans hm.symm) fun i h1 h2 => ?_
  have e := h i (by omega)
  rw [List.getD_eq_getElem?_getD, List.getD_eq_getElem?_getD, List.getElem?_eq_getElem h1, List.getElem?_eq_getElem h2] at e
  exact e

/-! ### dials as functions by the hours -/
def norm (n k : Nat) (f : Nat → Int) : List Nat := (List.range n).map fun i => (f i % (k : Int)).toNat
theorem norm_len (n k : Nat) (f : Nat → Int) : (norm n k f).length = n := by unfold norm; simp
theorem norm_getD {n k i : Nat} {f : Nat → Int} (hi : i < n) : (norm n k f).getD i 0 = (f i % (k : Int)).toNat := by
  unfold norm
  rw [List.getD_eq_getElem?_getD, List.getElem?_map, List.getElem?_range hi]
  rfl
theorem norm_dial {n k : Nat} (hk : 0 < k) (f : Nat → Int) : IsDial n k (norm n k f) := by
  refine ⟨norm_len n k f, fun x hx => ?_⟩
  unfold norm at hx
  obtain ⟨i, _, rfl⟩ := List.mem_map.mp hx
  have h1 := Int.emod_lt_of_pos (f i) (show (0 : Int) < k by omega)
  have h2 := Int.emod_nonneg (f i) (show (k : Int) ≠ 0 by omega)
  omega
theorem norm_congr {n k : Nat} {f g : Nat → Int} (h : ∀ i, i < n → f i % (k : Int) = g i % (k : Int)) : norm n k f = norm n k g := by
  refine ext_getD (norm_len n k f) (norm_len n k g) fun i hi => ?_
  rw [norm_getD hi, norm_getD hi, h i hi]
def fn (d : List Nat) : Nat → Int := fun i => (d.getD i 0 : Nat)
theorem norm_fn {n k : Nat} {d : List Nat} (h : IsDial n k d) : norm n k (fn d) = d := by
  refine ext_getD (norm_len n k _) h.len fun i hi => ?_
  rw [norm_getD hi]
  unfold fn
  have := h.getD hi
  rw [Int.emod_eq_of_lt (by omega) (by omega)]
  rfl
def up (f : Nat → Int) (v : Nat) (x : Int) : Nat → Int := fun i => if i = v then x else f i
theorem up_same (f : Nat → Int) (v : Nat) (x : Int) : up f v x v = x := if_pos rfl
theorem up_ne (f : Nat → Int) {v i : Nat} (x : Int) (h : i ≠ v) : up f v x i = f i := if_neg h
theorem emod_congr {k a b : Int} (t : Int) (h : a - b = k * t) : a % k = b % k := by
  have e : a = b + k * t := by omega
  rw [e, Int.add_mul_emod_self_left]

def R (n k : Nat) (as : Arrs) (f g : Nat → Int) : Prop := Rea k as (norm n k f) (norm n k g)
section
variable {n k : Nat} {as : Arrs} {f g h : Nat → Int}
theorem R.refl (f : Nat → Int) : R n k as f f := Rea.refl _
theorem R.trans (a : R n k as f g) (b : R n k as g h) : R n k as f h := Rea.trans a b
theorem R.congr (e : ∀ i, i < n → f i % (k : Int) = g i % (k : Int)) : R n k as f g := by
  unfold R
  rw [norm_congr e]
  exact .refl _
theorem R.arrow (hk : 0 < k) (ok : WebOk n as) {u v : Nat} (m : (u, v) ∈ as) (f : Nat → Int) : R n k as f (up f v (f v + f u)) := by
  obtain ⟨hu, hv, hne⟩ := ok _ m
  have hu : u < n := hu
  have hv : v < n := hv
  have e : norm n k (up f v (f v + f u)) = stp k (norm n k f) (u, v) := by
    refine ext_getD (norm_len n k _) (by unfold stp; rw [List.length_set]; exact norm_len n k f) fun i hi => ?_
    unfold stp
    rw [getD_set, norm_getD hi, norm_len]
    show _ = if v = i ∧ v < n then ((norm n k f).getD v 0 + (norm n k f).getD u 0) % k else (norm n k f).getD i 0
    by_cases hi2 : i = v
    · subst hi2
      rw [up_same, if_pos ⟨rfl, hv⟩, norm_getD hv, norm_getD hu]
      have h1 := Int.emod_nonneg (f i) (show (k : Int) ≠ 0 by omega)
      have h2 := Int.emod_nonneg (f u) (show (k : Int) ≠ 0 by omega)
      have h3 := Int.emod_nonneg (f i + f u) (show (k : Int) ≠ 0 by omega)
      have e1 : (((f i % k).toNat + (f u % k).toNat) % k : Nat) = (((f i + f u) % (k : Int)).toNat : Nat) := by
        have : ((((f i % k).toNat + (f u % k).toNat) % k : Nat) : Int) = (f i + f u) % (k : Int) := by
          rw [Int.natCast_emod, Int.natCast_add, Int.toNat_of_nonneg h1, Int.toNat_of_nonneg h2, ← Int.add_emod]
        omega
      exact e1.symm
    · rw [up_ne _ _ hi2, if_neg (fun q => hi2 q.1.symm), norm_getD hi]
  unfold R
  rw [e]
  exact .step (.refl _) m
/-- c times what u shows can be added at v, c any number -/
def Mv (n k : Nat) (as : Arrs) (u v : Nat) : Prop := ∀ (f : Nat → Int) (c : Int), R n k as f (up f v (f v + c * f u))
theorem mv_nat (hne : u ≠ v) (h1 : ∀ f : Nat → Int, R n k as f (up f v (f v + f u))) : ∀ (c : Nat) (f : Nat → Int), R n k as f (up f v (f v + (c : Int) * f u))
  | 0, f => by
    refine R.congr fun i _ => ?_
    by_cases hi : i = v
    · subst hi; rw [up_same]; simp
    · rw [up_ne _ _ hi]
  | c + 1, f => by
    refine (mv_nat hne h1 c f).trans ((h1 _).trans (R.congr fun i _ => ?_))
    by_cases hi : i = v
    · subst hi
      rw [up_same, up_same, up_same, up_ne _ _ hne]
      have : f i + (c : Int) * f u + f u = f i + ((c + 1 : Nat) : Int) * f u := by
        rw [Int.natCast_add, Int.add_mul]; omega
      rw [this]
    · rw [up_ne _ _ hi, up_ne _ _ hi, up_ne _ _ hi]
theorem mv_int (hk : 0 < k) {u v : Nat} (hne : u ≠ v) (h1 : ∀ f : Nat → Int, R n k as f (up f v (f v + f u))) : Mv n k as u v := fun f c => by
  have h2 := Int.emod_nonneg c (show (k : Int) ≠ 0 by omega)
  refine (mv_nat hne h1 (c % (k : Int)).toNat f).trans (R.congr fun i _ => ?_)
  by_cases hi : i = v
  · subst hi
    rw [up_same, up_same, Int.toNat_of_nonneg h2]
    have e := Int.emod_add_mul_ediv c (k : Int)
    refine emod_congr (- (c / (k : Int) * f u)) ?_
    have e2 : c = c % (k : Int) + (k : Int) * (c / (k : Int)) := e.symm
    generalize c % (k : Int) = a at *
    generalize c / (k : Int) = b at *
    subst e2
    grind
  · rw [up_ne _ _ hi, up_ne _ _ hi]
theorem mv (hk : 0 < k) (ok : WebOk n as) {u v : Nat} (hr : Rch as u v) : u ≠ v → Mv n k as u v := by
  induction hr with
  | refl => exact fun h => absurd rfl h
  | @step w v r m ih =>
    intro hne
    have hwv : w ≠ v := (ok _ m).2.2
    by_cases huw : u = w
    · subst huw
      exact mv_int hk hne fun f => R.arrow hk ok m f
    · have A := ih huw
      have B : Mv n k as w v := mv_int hk hwv fun f => R.arrow hk ok m f
      intro f c
      refine (A f c).trans ((B _ 1).trans ((A _ (-c)).trans ((B _ (-1)).trans (R.congr fun i _ => ?_))))
      by_cases h1 : i = v
      · subst h1
        have e1 : ¬ i = w := fun q => hwv q.symm
        have e2 : ¬ w = i := hwv
        simp only [up, if_pos rfl, if_neg e1, if_neg e2, if_neg huw, if_neg hne]
        refine congrArg (· % (k : Int)) ?_
        grind
      · by_cases h2 : i = w
        · subst h2
          have e1 : ¬ i = v := h1
          simp only [up, if_pos rfl, if_neg e1, if_neg huw, if_neg hne]
          refine congrArg (· % (k : Int)) ?_
          grind
        · simp only [up, if_neg h1, if_neg h2]
end
end Ca

set_option Elab.async false
/-! Parts, flows, marks; each dial leads to the one that its marks tell; marks stay. -/
namespace Ca
open Classical

/-! ### greatest common divisors -/
def gcdf (a : Nat → Nat) (k : Nat) (js : List Nat) : Nat := js.foldl (fun g j => Nat.gcd g (a j)) k
theorem gcdf_cons (a : Nat → Nat) (k j : Nat) (js : List Nat) : gcdf a k (j :: js) = gcdf a (Nat.gcd k (a j)) js := rfl
theorem dvd_gcdf (a : Nat → Nat) (x : Nat) : ∀ (js : List Nat) (k : Nat), x ∣ gcdf a k js ↔ x ∣ k ∧ ∀ j ∈ js, x ∣ a j
  | [], k => by simp [gcdf]
  | j :: js, k => by
    rw [gcdf_cons, dvd_gcdf a x js, Nat.dvd_gcd_iff]
    constructor
    · rintro ⟨⟨h1, h2⟩, h3⟩
      exact ⟨h1, fun i hi => by
        rcases List.mem_cons.mp hi with e | e
        · rw [e]; exact h2
        · exact h3 i e⟩
    · rintro ⟨h1, h2⟩
      exact ⟨⟨h1, h2 j List.mem_cons_self⟩, fun i hi => h2 i (List.mem_cons_of_mem _ hi)⟩
theorem eq_of_dvds {a b : Nat} (h : ∀ x, x ∣ a ↔ x ∣ b) : a = b := Nat.dvd_antisymm ((h a).mp (Nat.dvd_refl _)) ((h b).mpr (Nat.dvd_refl _))
theorem gcdf_pos {a : Nat → Nat} {k : Nat} (hk : 0 < k) (js : List Nat) : 0 < gcdf a k js :=
  Nat.pos_of_dvd_of_pos ((dvd_gcdf a _ js k).mp (Nat.dvd_refl _)).1 hk
theorem gcdf_dvd {a : Nat → Nat} {k : Nat} (js : List Nat) : gcdf a k js ∣ k := ((dvd_gcdf a _ js k).mp (Nat.dvd_refl _)).1

/-! ### parts -/
def Eqv (as : Arrs) (i j : Nat) : Prop := Rch as i j ∧ Rch as j i
theorem Eqv.refl {as : Arrs} (i : Nat) : Eqv as i i := ⟨.refl i, .refl i⟩
theorem Eqv.symm {as : Arrs} {i j : Nat} (h : Eqv as i j) : Eqv as j i := ⟨h.2, h.1⟩
theorem Eqv.trans {as : Arrs} {i j l : Nat} (h : Eqv as i j) (h' : Eqv as j l) : Eqv as i l := ⟨h.1.trans h'.1, h'.2.trans h.2⟩
noncomputable def part (n : Nat) (as : Arrs) (p : Nat) : List Nat := (List.range n).filter fun j => decide (Eqv as p j)
noncomputable def above (n : Nat) (as : Arrs) (p : Nat) : List Nat := (List.range n).filter fun j => decide (Rch as j p ∧ ¬ Rch as p j)
theorem mem_part {n : Nat} {as : Arrs} {p j : Nat} : j ∈ part n as p ↔ j < n ∧ Eqv as p j := by simp [part]
theorem mem_above {n : Nat} {as : Arrs} {p j : Nat} : j ∈ above n as p ↔ j < n ∧ Rch as j p ∧ ¬ Rch as p j := by simp [above]
theorem part_congr {n : Nat} {as : Arrs} {p q : Nat} (h : Eqv as p q) : part n as p = part n as q := by
  unfold part
  refine List.filter_congr fun j _ => ?_
  exact decide_eq_decide.mpr ⟨fun r => h.symm.trans r, fun r => h.trans r⟩
theorem above_congr {n : Nat} {as : Arrs} {p q : Nat} (h : Eqv as p q) : above n as p = above n as q := by
  unfold above
  refine List.filter_congr fun j _ => ?_
  exact decide_eq_decide.mpr ⟨fun r => ⟨r.1.trans h.1, fun z => r.2 (h.1.trans z)⟩, fun r => ⟨r.1.trans h.2, fun z => r.2 (h.2.trans z)⟩⟩
theorem part_nodup (n : Nat) (as : Arrs) (p : Nat) : (part n as p).Nodup := List.nodup_range.sublist List.filter_sublist
/-- the least clock of a clock's part -/
noncomputable def hd (n : Nat) (as : Arrs) (p : Nat) : Nat := (part n as p).headD 0
theorem hd_mem {n : Nat} {as : Arrs} {p : Nat} (h : p < n) : hd n as p ∈ part n as p := by
  have m : p ∈ part n as p := mem_part.mpr ⟨h, .refl p⟩
  unfold hd
  cases e : part n as p with
  | nil => rw [e] at m; cases m
  | cons a r => exact List.mem_cons_self
theorem hd_eqv {n : Nat} {as : Arrs} {p : Nat} (h : p < n) : Eqv as p (hd n as p) := (mem_part.mp (hd_mem h)).2
theorem hd_lt {n : Nat} {as : Arrs} {p : Nat} (h : p < n) : hd n as p < n := (mem_part.mp (hd_mem h)).1
theorem hd_congr {n : Nat} {as : Arrs} {p q : Nat} (h : Eqv as p q) : hd n as p = hd n as q := by unfold hd; rw [part_congr h]

/-! ### flows and marks -/
def val (d : List Nat) : Nat → Nat := fun i => d.getD i 0
noncomputable def flow (n : Nat) (as : Arrs) (k : Nat) (d : List Nat) (p : Nat) : Nat := gcdf (val d) k (above n as p)
noncomputable def markP (n : Nat) (as : Arrs) (k : Nat) (d : List Nat) (P : List Nat) : Nat × Nat :=
  (flow n as k d (P.headD 0), if P.length = 1 then val d (P.headD 0) % flow n as k d (P.headD 0) else gcdf (val d) (flow n as k d (P.headD 0)) P)
theorem flow_congr {n k : Nat} {as : Arrs} {d : List Nat} {p q : Nat} (h : Eqv as p q) : flow n as k d p = flow n as k d q := by unfold flow; rw [above_congr h]
theorem flow_pos {n k : Nat} {as : Arrs} {d : List Nat} {p : Nat} (hk : 0 < k) : 0 < flow n as k d p := gcdf_pos hk _
theorem flow_dvd {n k : Nat} {as : Arrs} {d : List Nat} {p : Nat} : flow n as k d p ∣ k := gcdf_dvd _
theorem dvd_flow {n k : Nat} {as : Arrs} {d : List Nat} {p x : Nat} : x ∣ flow n as k d p ↔ x ∣ k ∧ ∀ j ∈ above n as p, x ∣ val d j := dvd_gcdf _ _ _ _
theorem flow_hd {n k : Nat} {as : Arrs} {d : List Nat} {p : Nat} (h : p < n) : flow n as k d ((part n as p).headD 0) = flow n as k d p := (flow_congr (hd_eqv h)).symm

/-! ### steps leave marks as they are -/
section
variable {n k : Nat} {as : Arrs}
theorem val_stp {d : List Nat} {u v i : Nat} (hd : IsDial n k d) (hv : v < n) : val (stp k d (u, v)) i = if i = v then (val d v + val d u) % k else val d i := by
  unfold val stp
  rw [getD_set]
  show (if v = i ∧ v < d.length then _ else _) = _
  rw [hd.len]
  by_cases h : i = v
  · rw [if_pos ⟨h.symm, hv⟩, if_pos h]
  · rw [if_neg (fun q => h q.1.symm), if_neg h]
/-- js is closed: what has an arrow into it is in it -/
theorem dvd_step {d : List Nat} {u v x : Nat} (hd : IsDial n k d) (hv : v < n) (hx : x ∣ k) (js : List Nat) (hc : v ∈ js → u ∈ js) (hne : u ≠ v) : (∀ j ∈ js, x ∣ val (stp k d (u, v)) j) ↔ ∀ j ∈ js, x ∣ val d j := by
  have key : (x ∣ val d u) → (x ∣ (val d v + val d u) % k ↔ x ∣ val d v) := fun hu => by
    rw [Nat.dvd_mod_iff hx]
    exact (Nat.dvd_add_iff_left hu).symm
  constructor
  · intro h j hj
    have e := h j hj
    rw [val_stp hd hv] at e
    by_cases q : j = v
    · subst q
      rw [if_pos rfl] at e
      have hu := h u (hc hj)
      rw [val_stp hd hv, if_neg hne] at hu
      exact (key hu).mp e
    · rw [if_neg q] at e
      exact e
  · intro h j hj
    rw [val_stp hd hv]
    by_cases q : j = v
    · subst q
      rw [if_pos rfl]
      exact (key (h u (hc hj))).mpr (h j hj)
    · rw [if_neg q]
      exact h j hj
theorem above_closed (ok : WebOk n as) {u v p : Nat} (m : (u, v) ∈ as) : v ∈ above n as p → u ∈ above n as p := fun h => by
  obtain ⟨_, h1, h2⟩ := mem_above.mp h
  exact mem_above.mpr ⟨(ok _ m).1, (Rch.one m).trans h1, fun z => h2 (.step z m)⟩
theorem flow_step {d : List Nat} {u v p : Nat} (ok : WebOk n as) (hd : IsDial n k d) (m : (u, v) ∈ as) : flow n as k (stp k d (u, v)) p = flow n as k d p := by
  refine eq_of_dvds fun x => ?_
  rw [dvd_flow, dvd_flow]
  constructor
  · rintro ⟨h1, h2⟩
    exact ⟨h1, (dvd_step hd (ok _ m).2.1 h1 _ (above_closed ok m) (ok _ m).2.2).mp h2⟩
  · rintro ⟨h1, h2⟩
    exact ⟨h1, (dvd_step hd (ok _ m).2.1 h1 _ (above_closed ok m) (ok _ m).2.2).mpr h2⟩
theorem one_part {p j : Nat} (hp : p < n) (h : (part n as p).length = 1) (hj : j < n) (e : Eqv as p j) : j = p := by
  have a : p ∈ part n as p := mem_part.mpr ⟨hp, .refl p⟩
  have b : j ∈ part n as p := mem_part.mpr ⟨hj, e⟩
  cases q : part n as p with
  | nil => rw [q] at a; cases a
  | cons x r =>
    rw [q] at h a b
    have hr : r = [] := by cases r with | nil => rfl | cons _ _ => simp at h
    subst hr
    rw [List.mem_singleton.mp a, List.mem_singleton.mp b]
theorem mark_step {d : List Nat} {a : Nat × Nat} {p : Nat} (ok : WebOk n as) (hd' : IsDial n k d) (m : a ∈ as) (hp : p < n) : markP n as k (stp k d a) (part n as p) = markP n as k d (part n as p) := by
  obtain ⟨u, v⟩ := a
  obtain ⟨hu, hv, hne⟩ := ok _ m
  have hu : u < n := hu
  have hv : v < n := hv
  have hne : u ≠ v := hne
  unfold markP
  rw [flow_step ok hd' m]
  by_cases h1 : (part n as p).length = 1
  · rw [if_pos h1, if_pos h1]
    have hq : (part n as p).headD 0 = p := one_part hp h1 (hd_lt hp) (hd_eqv hp)
    rw [hq]
    refine Prod.ext rfl ?_
    show val (stp k d (u, v)) p % flow n as k d p = val d p % flow n as k d p
    rw [val_stp hd' hv]
    by_cases q : p = v
    · subst q
      rw [if_pos rfl, Nat.mod_mod_of_dvd _ flow_dvd]
      have hua : u ∈ above n as p := mem_above.mpr ⟨hu, .one m, fun z => hne (one_part hp h1 hu ⟨z, .one m⟩)⟩
      have hdv : flow n as k d p ∣ val d u := (dvd_flow.mp (Nat.dvd_refl _)).2 u hua
      obtain ⟨c, hc⟩ := hdv
      rw [hc, Nat.add_mul_mod_self_left]
    · rw [if_neg q]
  · rw [if_neg h1, if_neg h1]
    refine Prod.ext rfl ?_
    show gcdf (val (stp k d (u, v))) (flow n as k d ((part n as p).headD 0)) (part n as p) = gcdf (val d) (flow n as k d ((part n as p).headD 0)) (part n as p)
    rw [flow_hd hp]
    refine eq_of_dvds fun x => ?_
    rw [dvd_gcdf, dvd_gcdf]
    have both : ∀ e : List Nat, (x ∣ flow n as k e p ∧ ∀ j ∈ part n as p, x ∣ val e j) ↔ (x ∣ k ∧ ∀ j ∈ above n as p ++ part n as p, x ∣ val e j) := fun e => by
      rw [dvd_flow]
      constructor
      · rintro ⟨⟨a1, a2⟩, a3⟩
        exact ⟨a1, fun j hj => (List.mem_append.mp hj).elim (a2 j) (a3 j)⟩
      · rintro ⟨a1, a2⟩
        exact ⟨⟨a1, fun j hj => a2 j (List.mem_append_left _ hj)⟩, fun j hj => a2 j (List.mem_append_right _ hj)⟩
    have cl : v ∈ above n as p ++ part n as p → u ∈ above n as p ++ part n as p := fun h => by
      have hvp : Rch as v p := by
        rcases List.mem_append.mp h with z | z
        · exact (mem_above.mp z).2.1
        · exact (mem_part.mp z).2.2
      have hup : Rch as u p := (Rch.one m).trans hvp
      by_cases z : Rch as p u
      · exact List.mem_append_right _ (mem_part.mpr ⟨hu, z, hup⟩)
      · exact List.mem_append_left _ (mem_above.mpr ⟨hu, hup, z⟩)
    have e1 := both d
    have e2 := both (stp k d (u, v))
    rw [flow_step ok hd' m] at e2
    rw [e1, e2]
    constructor
    · rintro ⟨a1, a2⟩
      exact ⟨a1, (dvd_step hd' hv a1 _ cl hne).mp a2⟩
    · rintro ⟨a1, a2⟩
      exact ⟨a1, (dvd_step hd' hv a1 _ cl hne).mpr a2⟩
theorem mark_rea {d e : List Nat} (hk : 0 < k) (ok : WebOk n as) (hd' : IsDial n k d) (h : Rea k as d e) {p : Nat} (hp : p < n) : markP n as k e (part n as p) = markP n as k d (part n as p) := by
  induction h with
  | refl => rfl
  | step r m ih => rw [mark_step ok (r.dial hk hd') m hp, ih]
end

/-! ### what can be added at a clock -/
section
variable {n k : Nat} {as : Arrs}
def Ad (n k : Nat) (as : Arrs) (f : Nat → Int) (v : Nat) (x : Int) : Prop := ∀ y : Int, R n k as (up f v y) (up f v (y + x))
theorem up_up (f : Nat → Int) (v : Nat) (x y : Int) : up (up f v x) v y = up f v y := by
  funext i
  unfold up
  by_cases h : i = v
  · rw [if_pos h, if_pos h]
  · rw [if_neg h, if_neg h, if_neg h]
theorem up_self (f : Nat → Int) (v : Nat) : up f v (f v) = f := by
  funext i
  unfold up
  by_cases h : i = v
  · rw [if_pos h, h]
  · rw [if_neg h]
theorem Ad.add {f : Nat → Int} {v : Nat} {x y : Int} (a : Ad n k as f v x) (b : Ad n k as f v y) : Ad n k as f v (x + y) := fun z => by
  have h := (a z).trans (b (z + x))
  rw [Int.add_assoc] at h
  exact h
def Sub (n k : Nat) (as : Arrs) (f : Nat → Int) (v : Nat) (x : Int) : Prop := ∀ c : Int, Ad n k as f v (c * x)
theorem Sub.add {f : Nat → Int} {v : Nat} {x y : Int} (a : Sub n k as f v x) (b : Sub n k as f v y) : Sub n k as f v (x + y) := fun c => by
  rw [Int.mul_add]
  exact (a c).add (b c)
theorem Sub.mul {f : Nat → Int} {v : Nat} {x : Int} (a : Sub n k as f v x) (t : Int) : Sub n k as f v (t * x) := fun c => by
  rw [← Int.mul_assoc]
  exact a (c * t)
theorem Sub.hours {f : Nat → Int} {v : Nat} : Sub n k as f v (k : Int) := fun c y => R.congr fun i _ => by
  by_cases h : i = v
  · subst h
    rw [up_same, up_same]
    refine emod_congr (-c) ?_
    grind
  · rw [up_ne _ _ h, up_ne _ _ h]
theorem Sub.mv {f : Nat → Int} {u v : Nat} (hne : u ≠ v) (m : Mv n k as u v) : Sub n k as f v (f u) := fun c y => by
  have h := m (up f v y) c
  rw [up_same, up_ne _ _ hne, up_up] at h
  exact h
theorem Sub.gcd {f : Nat → Int} {v : Nat} : ∀ a b : Nat, Sub n k as f v (a : Int) → Sub n k as f v (b : Int) → Sub n k as f v (Nat.gcd a b : Nat) := by
  intro a b
  induction a, b using Nat.gcd.induction with
  | H0 b => intro _ h; rw [Nat.gcd_zero_left]; exact h
  | H1 a b ha ih =>
    intro h1 h2
    rw [Nat.gcd_rec]
    refine ih ?_ h1
    have e : ((b % a : Nat) : Int) = (b : Int) + (-((b / a : Nat) : Int)) * (a : Int) := by
      have q := Nat.mod_add_div b a
      have q2 : ((b % a : Nat) : Int) + (a : Int) * ((b / a : Nat) : Int) = (b : Int) := by
        rw [← Int.natCast_mul, ← Int.natCast_add, q]
      grind
    rw [e]
    exact h2.add (h1.mul _)
theorem Sub.gcdf {f : Nat → Int} {v : Nat} {a : Nat → Nat} : ∀ (js : List Nat) (x : Nat), Sub n k as f v (x : Int) → (∀ j ∈ js, Sub n k as f v (a j : Nat)) → Sub n k as f v (Ca.gcdf a x js : Nat)
  | [], _, h, _ => h
  | j :: js, x, h, h2 => by
    rw [gcdf_cons]
    exact Sub.gcdf js _ (Sub.gcd _ _ h (h2 j List.mem_cons_self)) fun i hi => h2 i (List.mem_cons_of_mem _ hi)
/-- at p all multiples of its flow can be added, whatever p's part shows -/
theorem Sub.flow (hk : 0 < k) (ok : WebOk n as) {d : List Nat} {f : Nat → Int} {p q : Nat} (hpq : Eqv as p q) (hf : ∀ j ∈ above n as p, f j = (val d j : Nat)) : Sub n k as f q (flow n as k d p : Nat) := by
  refine Sub.gcdf _ _ Sub.hours fun j hj => ?_
  rw [← hf j hj]
  obtain ⟨_, h1, h2⟩ := mem_above.mp hj
  have hne : j ≠ q := fun e => h2 (by rw [e]; exact hpq.1)
  exact Sub.mv hne (Ca.mv hk ok (h1.trans hpq.1) hne)

/-! ### two clocks that move one another: Euclid -/
theorem pairE : ∀ (x y : Nat) {p q : Nat}, p ≠ q → Mv n k as p q → Mv n k as q p → ∀ f : Nat → Int, f p = (x : Int) → f q = (y : Int) → R n k as f (up (up f p (Nat.gcd x y : Nat)) q 0) := by
  intro x y
  induction x, y using Nat.gcd.induction with
  | H0 y =>
    intro p q hne mpq mqp f hp hq
    rw [Nat.gcd_zero_left]
    refine (mqp f 1).trans ((mpq _ (-1)).trans (R.congr fun i _ => congrArg (· % (k : Int)) ?_))
    by_cases h1 : i = q
    · subst h1
      simp only [up, ↓reduceIte, if_neg hne, if_neg (Ne.symm hne), hp, hq]
      omega
    · by_cases h2 : i = p
      · subst h2
        simp only [up, ↓reduceIte, if_neg hne, if_neg (Ne.symm hne), hp, hq]
        omega
      · simp only [up, if_neg h1, if_neg h2]
  | H1 x y hx ih =>
    intro p q hne mpq mqp f hp hq
    rw [Nat.gcd_rec]
    have e1 : ((y % x : Nat) : Int) = (y : Int) + (-((y / x : Nat) : Int)) * (x : Int) := by
      have z := Nat.mod_add_div y x
      have z2 : ((y % x : Nat) : Int) + (x : Int) * ((y / x : Nat) : Int) = (y : Int) := by
        rw [← Int.natCast_mul, ← Int.natCast_add, z]
      grind
    have s1 := mpq f (-((y / x : Nat) : Int))
    rw [hp, hq, ← e1] at s1
    have s2 := ih (Ne.symm hne) mqp mpq (up f q ((y % x : Nat) : Int)) (up_same _ _ _) (by rw [up_ne _ _ hne]; exact hp)
    refine s1.trans (s2.trans ((mqp _ 1).trans ((mpq _ (-1)).trans (R.congr fun i _ => congrArg (· % (k : Int)) ?_))))
    by_cases h1 : i = q
    · subst h1
      simp only [up, ↓reduceIte, if_neg hne, if_neg (Ne.symm hne)]
      omega
    · by_cases h2 : i = p
      · subst h2
        simp only [up, ↓reduceIte, if_neg hne, if_neg (Ne.symm hne)]
        omega
      · simp only [up, if_neg h1, if_neg h2]
theorem gcdf_congr {a b : Nat → Nat} : ∀ (js : List Nat) (x : Nat), (∀ j ∈ js, a j = b j) → gcdf a x js = gcdf b x js
  | [], _, _ => rfl
  | j :: js, x, h => by
    rw [gcdf_cons, gcdf_cons, h j List.mem_cons_self]
    exact gcdf_congr js _ fun i hi => h i (List.mem_cons_of_mem _ hi)
theorem listE {p : Nat} : ∀ (qs : List Nat), qs.Nodup → (∀ q ∈ qs, p ≠ q ∧ Mv n k as p q ∧ Mv n k as q p) → ∀ a : Nat → Nat,
    R n k as (fun i => (a i : Int)) (fun i => if i = p then (gcdf a (a p) qs : Nat) else if i ∈ qs then 0 else (a i : Int))
  | [], _, _, a => R.congr fun i _ => by
    by_cases h : i = p
    · subst h
      rw [if_pos rfl]
      rfl
    · rw [if_neg h]
      simp
  | q :: qs, hN, hm, a => by
    obtain ⟨hne, m1, m2⟩ := hm q List.mem_cons_self
    obtain ⟨hq, hN2⟩ := List.nodup_cons.mp hN
    have s1 := pairE (a p) (a q) hne m1 m2 (fun i => (a i : Int)) rfl rfl
    have e : (up (up (fun i => (a i : Int)) p (Nat.gcd (a p) (a q) : Nat)) q 0) = fun i => (((if i = q then 0 else if i = p then Nat.gcd (a p) (a q) else a i : Nat)) : Int) := by
      funext i
      unfold up
      by_cases h1 : i = q
      · rw [if_pos h1, if_pos h1]; rfl
      · rw [if_neg h1, if_neg h1]
        by_cases h2 : i = p
        · rw [if_pos h2, if_pos h2]
        · rw [if_neg h2, if_neg h2]
    rw [e] at s1
    refine s1.trans ((listE qs hN2 (fun x hx => hm x (List.mem_cons_of_mem _ hx)) _).trans (R.congr fun i _ => congrArg (· % (k : Int)) ?_))
    have e2 : gcdf (fun i => if i = q then 0 else if i = p then Nat.gcd (a p) (a q) else a i) (if p = q then 0 else if p = p then Nat.gcd (a p) (a q) else a p) qs = gcdf a (a p) (q :: qs) := by
      rw [if_neg hne, if_pos rfl, gcdf_cons]
      refine gcdf_congr qs _ fun j hj => ?_
      have j1 : ¬ j = q := fun z => hq (z ▸ hj)
      have j2 : ¬ j = p := fun z => (hm j (List.mem_cons_of_mem _ hj)).1 z.symm
      rw [if_neg j1, if_neg j2]
    by_cases h1 : i = p
    · rw [if_pos h1, if_pos h1]
      exact congrArg Nat.cast e2
    · rw [if_neg h1, if_neg h1]
      by_cases h2 : i ∈ qs
      · rw [if_pos h2, if_neg h1, if_pos (List.mem_cons_of_mem _ h2)]
      · rw [if_neg h2, if_neg h1]
        by_cases h3 : i = q
        · have h4 : i ∈ q :: qs := by rw [h3]; exact List.mem_cons_self
          rw [if_pos h3, if_pos h4]; rfl
        · have h4 : ¬ i ∈ q :: qs := fun z => (List.mem_cons.mp z).elim h3 h2
          rw [if_neg h3, if_neg h4]
end
end Ca

set_option Elab.async false
/-! Each dial leads to the one that its marks tell; same marks: they come from one another. -/
namespace Ca
open Classical
section
variable {n k : Nat} {as : Arrs}
theorem rea_of_R {d : List Nat} (hd' : IsDial n k d) {g : Nat → Int} (h : R n k as (fn d) g) : Rea k as d (norm n k g) := by
  unfold R at h
  rw [norm_fn hd'] at h
  exact h
theorem rea_back1 {d : List Nat} {a : Nat × Nat} (hk : 0 < k) (ok : WebOk n as) (hd' : IsDial n k d) (m : a ∈ as) : Rea k as (stp k d a) d := by
  obtain ⟨u, v⟩ := a
  obtain ⟨hu, hv, hne⟩ := ok _ m
  have hu : u < n := hu
  have hv : v < n := hv
  have hne : u ≠ v := hne
  have hs : IsDial n k (stp k d (u, v)) := hd'.stp hk _
  have h := rea_of_R hs (mv hk ok (Rch.one m) hne (fn (stp k d (u, v))) (-1))
  have e : norm n k (up (fn (stp k d (u, v))) v (fn (stp k d (u, v)) v + -1 * fn (stp k d (u, v)) u)) = d := by
    rw [← norm_fn hd']
    refine norm_congr fun i hi => ?_
    have fv : ∀ j, fn (stp k d (u, v)) j = ((if j = v then (val d v + val d u) % k else val d j : Nat) : Int) := fun j => congrArg Nat.cast (val_stp (n := n) (i := j) hd' hv)
    rw [norm_fn hd']
    by_cases q : i = v
    · subst q
      rw [up_same, fv, fv, if_pos rfl, if_neg hne]
      show _ = ((val d i : Nat) : Int) % _
      have e := Nat.mod_add_div (val d i + val d u) k
      have e2 : (((val d i + val d u) % k : Nat) : Int) + (k : Int) * (((val d i + val d u) / k : Nat) : Int) = (val d i : Nat) + (val d u : Nat) := by
        rw [← Int.natCast_mul, ← Int.natCast_add, e, Int.natCast_add]
      refine emod_congr (-(((val d i + val d u) / k : Nat) : Int)) ?_
      generalize (val d i + val d u) % k = x at *
      generalize (val d i + val d u) / k = y at *
      grind
    · rw [up_ne _ _ q, fv, if_neg q]
      rfl
  rw [e] at h
  exact h
theorem rea_symm {d e : List Nat} (hk : 0 < k) (ok : WebOk n as) (hd' : IsDial n k d) (h : Rea k as d e) : Rea k as e d := by
  induction h with
  | refl => exact .refl _
  | step r m ih => exact (rea_back1 hk ok (r.dial hk hd') m).trans ih

/-- a clock alone in its part is brought to what its mark tells -/
theorem stage_one {e : List Nat} {p : Nat} (hk : 0 < k) (ok : WebOk n as) (he : IsDial n k e) (hp : p < n) :
    ∃ e', Rea k as e e' ∧ IsDial n k e' ∧ val e' p = val e p % flow n as k e p ∧ ∀ i, i < n → i ≠ p → val e' i = val e i := by
  have S : Sub n k as (fn e) p (flow n as k e p : Nat) := Sub.flow hk ok (Eqv.refl p) fun j _ => rfl
  have h := S (-((val e p / flow n as k e p : Nat) : Int)) (fn e p)
  rw [up_self] at h
  have h2 := rea_of_R he h
  have hg : 0 < flow n as k e p := flow_pos hk
  have hgk : flow n as k e p ≤ k := Nat.le_of_dvd hk flow_dvd
  refine ⟨_, h2, norm_dial hk _, ?_, fun i hi hne => ?_⟩
  · show (norm n k _).getD p 0 = _
    rw [norm_getD hp, up_same]
    have e1 : fn e p + -((val e p / flow n as k e p : Nat) : Int) * ((flow n as k e p : Nat) : Int) = ((val e p % flow n as k e p : Nat) : Int) := by
      have q := Nat.mod_add_div (val e p) (flow n as k e p)
      have q2 : ((val e p % flow n as k e p : Nat) : Int) + ((flow n as k e p : Nat) : Int) * ((val e p / flow n as k e p : Nat) : Int) = (val e p : Nat) := by
        rw [← Int.natCast_mul, ← Int.natCast_add, q]
      have q3 : fn e p = (val e p : Nat) := rfl
      rw [q3, ← q2]
      grind
    rw [e1]
    have lt := Nat.mod_lt (val e p) hg
    rw [Int.emod_eq_of_lt (by omega) (by omega)]
    rfl
  · show (norm n k _).getD i 0 = _
    rw [norm_getD hi, up_ne _ _ hne]
    have lt := he.getD hi
    show ((val e i : Nat) % (k : Int)).toNat = _
    rw [Int.emod_eq_of_lt (by omega) (by unfold val; omega)]
    rfl
/-- a part of more clocks is gathered at one of them -/
theorem stage_more {e : List Nat} {p q₀ : Nat} (hk : 0 < k) (ok : WebOk n as) (he : IsDial n k e) (hp : p < n) (hq : q₀ < n) (hne : p ≠ q₀) (hpq : Eqv as p q₀) :
    ∃ e', Rea k as e e' ∧ IsDial n k e' ∧ val e' p = gcdf (val e) (flow n as k e p) (part n as p) % k ∧ (∀ i, i < n → i ≠ p → i ∈ part n as p → val e' i = 0) ∧ ∀ i, i < n → ¬ i ∈ part n as p → val e' i = val e i := by
  have M : ∀ {a b : Nat}, Eqv as a b → a ≠ b → Mv n k as a b := fun h hn => mv hk ok h.1 hn
  have hN : ((part n as p).filter fun j => decide (j ≠ p)).Nodup := (part_nodup n as p).sublist List.filter_sublist
  have memq : ∀ j, j ∈ ((part n as p).filter fun j => decide (j ≠ p)) ↔ j ∈ part n as p ∧ j ≠ p := fun j => by simp [List.mem_filter]
  have s1 := listE (p := p) ((part n as p).filter fun j => decide (j ≠ p)) hN (fun q hq => by
    obtain ⟨h1, h2⟩ := (memq q).mp hq
    have h3 := (mem_part.mp h1).2
    exact ⟨Ne.symm h2, M h3 (Ne.symm h2), M h3.symm h2⟩) (val e)
  generalize hqs : ((part n as p).filter fun j => decide (j ≠ p)) = qs at *
  -- h at p, 0 at the others
  generalize hh : gcdf (val e) (val e p) qs = h at s1
  generalize hf : (fun i => if i = p then (h : Int) else if i ∈ qs then 0 else (val e i : Int)) = f1 at s1
  have f1p : f1 p = (h : Nat) := by rw [← hf]; exact if_pos rfl
  have f1q : f1 q₀ = 0 := by
    rw [← hf]
    show (if q₀ = p then _ else if q₀ ∈ qs then 0 else _) = _
    rw [if_neg (Ne.symm hne), if_pos ((memq q₀).mpr ⟨mem_part.mpr ⟨hq, hpq⟩, Ne.symm hne⟩)]
  have S : Sub n k as f1 q₀ (flow n as k e p : Nat) := Sub.flow hk ok hpq fun j hj => by
    have h1 : ¬ j ∈ part n as p := fun z => (mem_above.mp hj).2.2 (mem_part.mp z).2.1
    have h2 : ¬ j = p := fun z => h1 (by rw [z]; exact mem_part.mpr ⟨hp, .refl p⟩)
    rw [← hf]
    show (if j = p then _ else if j ∈ qs then 0 else _) = _
    rw [if_neg h2, if_neg (fun z => h1 ((memq j).mp z).1)]
  have s2 := S 1 0
  rw [Int.one_mul, Int.zero_add] at s2
  have s2' : R n k as f1 (up f1 q₀ (flow n as k e p : Nat)) := by
    have e0 : up f1 q₀ 0 = f1 := by rw [← f1q]; exact up_self f1 q₀
    rw [e0] at s2
    exact s2
  have s3 := pairE h (flow n as k e p) hne (M hpq hne) (M hpq.symm (Ne.symm hne)) (up f1 q₀ (flow n as k e p : Nat)) (by rw [up_ne _ _ hne]; exact f1p) (up_same _ _ _)
  have tot := rea_of_R he (s1.trans (s2'.trans s3))
  have hr : Nat.gcd h (flow n as k e p) = gcdf (val e) (flow n as k e p) (part n as p) := by
    refine eq_of_dvds fun x => ?_
    rw [Nat.dvd_gcd_iff, ← hh, dvd_gcdf, dvd_gcdf]
    constructor
    · rintro ⟨⟨a1, a2⟩, a3⟩
      refine ⟨a3, fun j hj => ?_⟩
      by_cases z : j = p
      · rw [z]; exact a1
      · exact a2 j ((memq j).mpr ⟨hj, z⟩)
    · rintro ⟨a1, a2⟩
      exact ⟨⟨a2 p (mem_part.mpr ⟨hp, .refl p⟩), fun j hj => a2 j ((memq j).mp hj).1⟩, a1⟩
  rw [hr] at tot
  refine ⟨_, tot, norm_dial hk _, ?_, fun i hi h1 h2 => ?_, fun i hi h1 => ?_⟩
  · show (norm n k _).getD p 0 = _
    rw [norm_getD hp, up_ne _ _ hne, up_same]
    rw [← Int.natCast_emod]
    rfl
  · show (norm n k _).getD i 0 = _
    rw [norm_getD hi]
    by_cases z : i = q₀
    · rw [z, up_same]; simp
    · rw [up_ne _ _ z, up_ne _ _ h1, up_ne _ _ z, ← hf]
      show ((if i = p then _ else if i ∈ qs then (0 : Int) else _) % _).toNat = _
      rw [if_neg h1, if_pos ((memq i).mpr ⟨h2, h1⟩)]
      simp
  · have n1 : ¬ i = p := fun z => h1 (by rw [z]; exact mem_part.mpr ⟨hp, .refl p⟩)
    have n2 : ¬ i = q₀ := fun z => h1 (by rw [z]; exact mem_part.mpr ⟨hq, hpq⟩)
    show (norm n k _).getD i 0 = _
    rw [norm_getD hi, up_ne _ _ n2, up_ne _ _ n1, up_ne _ _ n2, ← hf]
    show ((if i = p then _ else if i ∈ qs then (0 : Int) else _) % _).toNat = _
    rw [if_neg n1, if_neg (fun z => h1 ((memq i).mp z).1)]
    have lt := he.getD hi
    rw [Int.emod_eq_of_lt (by omega) (by unfold val; omega)]
    rfl

/-- what clock i shows in the dial that the marks M tell -/
noncomputable def canon (n k : Nat) (as : Arrs) (d : List Nat) (i : Nat) : Nat :=
  if (part n as i).length = 1 then (markP n as k d (part n as i)).2 else if i = hd n as i then (markP n as k d (part n as i)).2 % k else 0
theorem stages {d : List Nat} (hk : 0 < k) (ok : WebOk n as) (hd' : IsDial n k d) : ∀ t, t ≤ n → ∃ e, Rea k as d e ∧ ∀ i, i < n → hd n as i < t → val e i = canon n k as d i
  | 0, _ => ⟨d, .refl _, fun i _ h => absurd h (Nat.not_lt_zero _)⟩
  | t + 1, ht => by
    obtain ⟨e, r, h⟩ := stages hk ok hd' t (by omega)
    have he := r.dial hk hd'
    have tn : t < n := ht
    by_cases q : hd n as t = t
    · have inp : ∀ i, i < n → hd n as i = t → i ∈ part n as t := fun i hi e => mem_part.mpr ⟨hi, by
        have z := (hd_eqv (n := n) (as := as) hi).symm
        rw [e] at z
        exact z⟩
      have pin : ∀ i, i ∈ part n as t → part n as i = part n as t ∧ hd n as i = t := fun i hi => by
        have z := (mem_part.mp hi).2
        exact ⟨(part_congr z).symm, by rw [← hd_congr z, q]⟩
      have mk := mark_rea hk ok hd' r tn
      have fl : flow n as k e t = flow n as k d t := by
        have z := congrArg Prod.fst mk
        have z2 : flow n as k e ((part n as t).headD 0) = flow n as k d ((part n as t).headD 0) := z
        rw [flow_hd tn, flow_hd tn] at z2
        exact z2
      by_cases one : (part n as t).length = 1
      · obtain ⟨e', r', he', hv, hs⟩ := stage_one hk ok he tn
        refine ⟨e', r.trans r', fun i hi hlt => ?_⟩
        by_cases z : i = t
        · subst z
          rw [hv]
          have z2 := congrArg Prod.snd mk
          unfold markP at z2
          rw [if_pos one, if_pos one, flow_hd tn] at z2
          unfold canon markP
          rw [if_pos one, if_pos one, flow_hd tn, ← flow_hd (d := e) tn]
          have z3 : val e ((part n as i).headD 0) % flow n as k e i = val d ((part n as i).headD 0) % flow n as k d ((part n as i).headD 0) := z2
          rw [flow_hd tn] at z3
          have z4 : (part n as i).headD 0 = i := q
          rw [flow_hd tn]
          rw [z4] at z3
          show _ = val d ((part n as i).headD 0) % _
          rw [z4]
          exact z3
        · rw [hs i hi z]
          refine h i hi ?_
          have : hd n as i ≠ t := fun w => z (one_part tn one hi (mem_part.mp (inp i hi w)).2)
          omega
      · obtain ⟨q₀, hq0, hne, hpq⟩ : ∃ q₀, q₀ < n ∧ t ≠ q₀ ∧ Eqv as t q₀ := by
          refine Classical.byContradiction fun no => one ?_
          have all : ∀ j ∈ part n as t, j = t := fun j hj => Classical.byContradiction fun w => no ⟨j, (mem_part.mp hj).1, fun w2 => w w2.symm, (mem_part.mp hj).2⟩
          have tm : t ∈ part n as t := mem_part.mpr ⟨tn, .refl t⟩
          have nd := part_nodup n as t
          match hP : part n as t with
          | [] => rw [hP] at tm; cases tm
          | [_] => rfl
          | x :: y :: r' =>
            rw [hP] at all nd
            have e1 := all x List.mem_cons_self
            have e2 := all y (List.mem_cons_of_mem _ List.mem_cons_self)
            rw [e1, e2] at nd
            exact absurd List.mem_cons_self (List.nodup_cons.mp nd).1
        obtain ⟨e', r', he', hv, h0, hs⟩ := stage_more hk ok he tn hq0 hne hpq
        refine ⟨e', r.trans r', fun i hi hlt => ?_⟩
        by_cases z : i ∈ part n as t
        · obtain ⟨z1, z2⟩ := pin i z
          unfold canon
          rw [z1, if_neg one, z2]
          by_cases w : i = t
          · rw [if_pos w, w, hv]
            have z3 := congrArg Prod.snd mk
            unfold markP at z3
            rw [if_neg one, if_neg one, flow_hd tn, flow_hd tn] at z3
            unfold markP
            rw [if_neg one, flow_hd tn]
            exact congrArg (· % k) z3
          · rw [if_neg w]
            exact h0 i hi w z
        · rw [hs i hi z]
          refine h i hi ?_
          have : hd n as i ≠ t := fun w => z (inp i hi w)
          omega
    · refine ⟨e, r, fun i hi hlt => h i hi ?_⟩
      have : hd n as i ≠ t := fun w => q (by
        have z := hd_congr (n := n) (hd_eqv (n := n) (as := as) hi)
        rw [w] at z
        exact z.symm)
      omega
/-- two dials with the same marks come from one another -/
theorem rea_of_marks {d e : List Nat} (hk : 0 < k) (ok : WebOk n as) (hd' : IsDial n k d) (he : IsDial n k e) (h : ∀ p, p < n → markP n as k d (part n as p) = markP n as k e (part n as p)) : Rea k as d e := by
  obtain ⟨c, r, hc⟩ := stages hk ok hd' n (Nat.le_refl _)
  obtain ⟨c', r', hc'⟩ := stages hk ok he n (Nat.le_refl _)
  have ec : c = c' := ext_getD (r.dial hk hd').len (r'.dial hk he).len fun i hi => by
    have a := hc i hi (hd_lt hi)
    have b := hc' i hi (hd_lt hi)
    show val c i = val c' i
    rw [a, b]
    unfold canon
    rw [h i hi]
  subst ec
  exact r.trans (rea_symm hk ok he r')
theorem rea_iff {d e : List Nat} (hk : 0 < k) (ok : WebOk n as) (hd' : IsDial n k d) : Rea k as d e ↔ IsDial n k e ∧ ∀ p, p < n → markP n as k e (part n as p) = markP n as k d (part n as p) :=
  ⟨fun h => ⟨h.dial hk hd', fun _ hp => mark_rea hk ok hd' h hp⟩, fun ⟨he, h⟩ => rea_of_marks hk ok hd' he fun p hp => (h p hp).symm⟩
end
end Ca

set_option Elab.async false
/-! How many dials can come: a product over the parts. -/
namespace Ca
open Classical
/-! ### lists -/
theorem len_le {α : Type} [DecidableEq α] : ∀ (l m : List α), l.Nodup → (∀ x ∈ l, x ∈ m) → l.length ≤ m.length
  | [], _, _, _ => Nat.zero_le _
  | x :: l, m, hN, hs => by
    obtain ⟨h1, h2⟩ := List.nodup_cons.mp hN
    have hx := hs x List.mem_cons_self
    have ih := len_le l (m.erase x) h2 fun y hy => by
      have ne : y ≠ x := fun e => h1 (e ▸ hy)
      exact (List.mem_erase_of_ne ne).mpr (hs y (List.mem_cons_of_mem _ hy))
    rw [List.length_erase_of_mem hx] at ih
    have := List.length_pos_of_mem hx
    rw [List.length_cons]
    omega
theorem len_eq {α : Type} [DecidableEq α] {l m : List α} (h1 : l.Nodup) (h2 : m.Nodup) (h : ∀ x, x ∈ l ↔ x ∈ m) : l.length = m.length :=
  Nat.le_antisymm (len_le l m h1 fun x => (h x).mp) (len_le m l h2 fun x => (h x).mpr)
def tuples (k : Nat) : Nat → List (List Nat)
  | 0 => [[]]
  | m + 1 => (List.range k).flatMap fun x => (tuples k m).map (x :: ·)
theorem mem_tuples {k : Nat} : ∀ {m : Nat} {c : List Nat}, c ∈ tuples k m ↔ c.length = m ∧ ∀ x ∈ c, x < k
  | 0, c => by
    unfold tuples
    constructor
    · intro h
      rw [List.mem_singleton.mp h]
      exact ⟨rfl, fun _ h => nomatch h⟩
    · rintro ⟨h, _⟩
      rw [List.length_eq_zero_iff.mp h]
      exact List.mem_singleton.mpr rfl
  | m + 1, c => by
    unfold tuples
    rw [List.mem_flatMap]
    constructor
    · rintro ⟨x, hx, h⟩
      obtain ⟨c', h1, rfl⟩ := List.mem_map.mp h
      obtain ⟨h2, h3⟩ := mem_tuples.mp h1
      exact ⟨by rw [List.length_cons, h2], fun y hy => (List.mem_cons.mp hy).elim (fun e => e ▸ List.mem_range.mp hx) (h3 y)⟩
    · rintro ⟨h1, h2⟩
      cases c with
      | nil => simp at h1
      | cons x c' =>
        exact ⟨x, List.mem_range.mpr (h2 x List.mem_cons_self), List.mem_map.mpr ⟨c', mem_tuples.mpr ⟨by simpa using h1, fun y hy => h2 y (List.mem_cons_of_mem _ hy)⟩, rfl⟩⟩
theorem nodup_tuples (k : Nat) : ∀ m, (tuples k m).Nodup
  | 0 => by unfold tuples; simp
  | m + 1 => by
    unfold tuples
    refine List.pairwise_flatMap.mpr ⟨fun x _ => List.pairwise_map.mpr ((nodup_tuples k m).imp fun h e => h (List.cons.inj e).2), ?_⟩
    refine List.nodup_range.imp fun h y hy z hz e => ?_
    obtain ⟨y', _, rfl⟩ := List.mem_map.mp hy
    obtain ⟨z', _, rfl⟩ := List.mem_map.mp hz
    exact h (List.cons.inj e).1
def blocks : List (List (List Nat)) → List (List Nat)
  | [] => [[]]
  | C :: r => C.flatMap fun c => (blocks r).map (c ++ ·)
theorem len_blocks : ∀ Cs : List (List (List Nat)), (blocks Cs).length = (Cs.map List.length).foldr (· * ·) 1
  | [] => rfl
  | C :: r => by
    have ih := len_blocks r
    unfold blocks
    rw [List.length_flatMap, List.map_cons, List.foldr_cons, ← ih]
    have : ∀ C : List (List Nat), (C.map fun a => ((blocks r).map (a ++ ·)).length).sum = C.length * (blocks r).length := by
      intro C
      induction C with
      | nil => simp
      | cons c C ih => rw [List.map_cons, List.sum_cons, ih, List.length_map, List.length_cons, Nat.add_mul]; omega
    exact this C
theorem foldl_mul : ∀ (l : List Nat) (a : Nat), l.foldl (· * ·) a = a * l.foldr (· * ·) 1
  | [], a => by simp
  | x :: l, a => by rw [List.foldl_cons, foldl_mul l, List.foldr_cons, Nat.mul_assoc]
section
variable {G : List Nat → List (List Nat)}
theorem nodup_blocks : ∀ Ps : List (List Nat), (∀ P ∈ Ps, (G P).Nodup ∧ ∀ c ∈ G P, c.length = P.length) → (blocks (Ps.map G)).Nodup
  | [], _ => by unfold blocks; simp
  | P :: Ps, h => by
    obtain ⟨h1, h2⟩ := h P List.mem_cons_self
    have ih := nodup_blocks Ps fun Q hQ => h Q (List.mem_cons_of_mem _ hQ)
    rw [List.map_cons]
    unfold blocks
    refine List.pairwise_flatMap.mpr ⟨fun x _ => List.pairwise_map.mpr (ih.imp fun h e => h (List.append_cancel_left e)), ?_⟩
    refine h1.imp_of_mem fun {a b} ha hb hn y hy z hz e => ?_
    obtain ⟨y', _, rfl⟩ := List.mem_map.mp hy
    obtain ⟨z', _, rfl⟩ := List.mem_map.mp hz
    exact hn (List.append_inj_left e ((h2 a ha).trans (h2 b hb).symm))
theorem in_blocks (v : Nat → Nat) : ∀ Ps : List (List Nat), (∀ P ∈ Ps, P.map v ∈ G P) → Ps.flatten.map v ∈ blocks (Ps.map G)
  | [], _ => by unfold blocks; simp
  | P :: Ps, h => by
    rw [List.map_cons, List.flatten_cons, List.map_append]
    unfold blocks
    exact List.mem_flatMap.mpr ⟨_, h P List.mem_cons_self, List.mem_map.mpr ⟨_, in_blocks v Ps fun Q hQ => h Q (List.mem_cons_of_mem _ hQ), rfl⟩⟩
theorem of_blocks (v : Nat → Nat) : ∀ Ps : List (List Nat), (∀ P ∈ Ps, ∀ c ∈ G P, c.length = P.length) → Ps.flatten.map v ∈ blocks (Ps.map G) → ∀ P ∈ Ps, P.map v ∈ G P
  | [], _, _, _, h => nomatch h
  | P :: Ps, hl, h, Q, hQ => by
    rw [List.map_cons, List.flatten_cons, List.map_append] at h
    unfold blocks at h
    obtain ⟨c, hc, h⟩ := List.mem_flatMap.mp h
    obtain ⟨w, hw, e⟩ := List.mem_map.mp h
    obtain ⟨e1, e2⟩ := List.append_inj e (by rw [List.length_map]; exact hl P List.mem_cons_self c hc)
    rcases List.mem_cons.mp hQ with q | q
    · rw [q, ← e1]; exact hc
    · rw [e2] at hw
      exact of_blocks v Ps (fun P' hP' => hl P' (List.mem_cons_of_mem _ hP')) hw Q q
theorem blocks_len : ∀ Ps : List (List Nat), (∀ P ∈ Ps, ∀ c ∈ G P, c.length = P.length) → ∀ w ∈ blocks (Ps.map G), w.length = Ps.flatten.length
  | [], _, w, h => by
    have h' : w ∈ [[]] := h
    rw [List.mem_singleton.mp h']
    rfl
  | P :: Ps, hl, w, h => by
    rw [List.map_cons] at h
    unfold blocks at h
    obtain ⟨c, hc, h⟩ := List.mem_flatMap.mp h
    obtain ⟨w', hw, rfl⟩ := List.mem_map.mp h
    rw [List.length_append, List.flatten_cons, List.length_append, hl P List.mem_cons_self c hc, blocks_len Ps (fun P' hP' => hl P' (List.mem_cons_of_mem _ hP')) w' hw]
end

/-! ### the parts, ascending -/
section
variable {n k : Nat} {as : Arrs}
noncomputable def heads (n : Nat) (as : Arrs) : List Nat := (List.range n).filter fun p => decide (hd n as p = p)
noncomputable def partsL (n : Nat) (as : Arrs) : List (List Nat) := (heads n as).map (part n as)
noncomputable def marksL (n : Nat) (as : Arrs) (k : Nat) (d : List Nat) : List (Nat × Nat) := (partsL n as).map (markP n as k d)
theorem mem_heads {p : Nat} : p ∈ heads n as ↔ p < n ∧ hd n as p = p := by simp [heads]
theorem hd_hd {p : Nat} (h : p < n) : hd n as (hd n as p) = hd n as p := (hd_congr (hd_eqv h)).symm
theorem hd_heads {p : Nat} (h : p < n) : hd n as p ∈ heads n as := mem_heads.mpr ⟨hd_lt h, hd_hd h⟩
theorem mem_partsL {P : List Nat} : P ∈ partsL n as ↔ ∃ p, p < n ∧ P = part n as p := by
  unfold partsL
  rw [List.mem_map]
  constructor
  · rintro ⟨p, h, rfl⟩
    exact ⟨p, (mem_heads.mp h).1, rfl⟩
  · rintro ⟨p, h, rfl⟩
    exact ⟨hd n as p, hd_heads h, (part_congr (hd_eqv h)).symm⟩
theorem marksL_eq {d e : List Nat} : marksL n as k d = marksL n as k e ↔ ∀ p, p < n → markP n as k d (part n as p) = markP n as k e (part n as p) := by
  unfold marksL
  rw [List.map_inj_left]
  constructor
  · exact fun h p hp => h _ (mem_partsL.mpr ⟨p, hp, rfl⟩)
  · intro h P hP
    obtain ⟨p, hp, rfl⟩ := mem_partsL.mp hP
    exact h p hp
theorem rea_marks {d e : List Nat} (hk : 0 < k) (ok : WebOk n as) (hd' : IsDial n k d) : Rea k as d e ↔ IsDial n k e ∧ marksL n as k e = marksL n as k d := by
  rw [rea_iff hk ok hd', marksL_eq]
theorem flat_mem {i : Nat} : i ∈ (partsL n as).flatten ↔ i < n := by
  rw [List.mem_flatten]
  constructor
  · rintro ⟨P, h1, h2⟩
    obtain ⟨p, _, rfl⟩ := mem_partsL.mp h1
    exact (mem_part.mp h2).1
  · exact fun h => ⟨_, mem_partsL.mpr ⟨i, h, rfl⟩, mem_part.mpr ⟨h, .refl i⟩⟩
theorem flat_nodup : (partsL n as).flatten.Nodup := by
  refine List.pairwise_flatten.mpr ⟨fun P hP => ?_, ?_⟩
  · obtain ⟨p, _, rfl⟩ := mem_partsL.mp hP
    exact part_nodup n as p
  · unfold partsL
    refine List.pairwise_map.mpr ?_
    have hN : (heads n as).Nodup := List.nodup_range.sublist List.filter_sublist
    refine hN.imp_of_mem fun {a b} ha hb hne x hx y hy e => ?_
    subst e
    have e1 : Eqv as a b := (mem_part.mp hx).2.trans (mem_part.mp hy).2.symm
    have := hd_congr (n := n) e1
    rw [(mem_heads.mp ha).2, (mem_heads.mp hb).2] at this
    exact hne this

/-! ### the mark's condition on what a part shows -/
def cnd (M : Nat × Nat) (m : Nat) (c : List Nat) : Bool := if m = 1 then decide (c.headD 0 % M.1 = M.2) else decide (c.foldl Nat.gcd M.1 = M.2)
def wayC (k : Nat) (M : Nat × Nat) (m : Nat) : Nat := ((tuples k m).filter (cnd M m)).length
theorem gcdf_map (a : Nat → Nat) (x : Nat) (js : List Nat) : gcdf a x js = (js.map a).foldl Nat.gcd x := by
  unfold gcdf
  rw [List.foldl_map]
theorem mark_cnd {e : List Nat} {p : Nat} (hp : p < n) (M : Nat × Nat) (hf : flow n as k e p = M.1) : cnd M (part n as p).length ((part n as p).map (val e)) = true ↔ markP n as k e (part n as p) = M := by
  unfold cnd markP
  rw [flow_hd hp, hf]
  have pm : part n as p ≠ [] := fun z => by
    have := mem_part.mpr ⟨hp, Eqv.refl (as := as) p⟩
    rw [z] at this
    cases this
  have hh : ((part n as p).map (val e)).headD 0 = val e ((part n as p).headD 0) := by
    cases q : part n as p with
    | nil => exact absurd q pm
    | cons _ _ => rfl
  by_cases h : (part n as p).length = 1
  · rw [if_pos h, if_pos h, hh, decide_eq_true_iff]
    exact ⟨fun z => Prod.ext rfl z, fun z => congrArg Prod.snd z⟩
  · rw [if_neg h, if_neg h, ← gcdf_map, decide_eq_true_iff]
    exact ⟨fun z => Prod.ext rfl z, fun z => congrArg Prod.snd z⟩
theorem flow_mark {d e : List Nat} {p : Nat} (hp : p < n) (h : markP n as k d (part n as p) = markP n as k e (part n as p)) : flow n as k d p = flow n as k e p := by
  have z : flow n as k d ((part n as p).headD 0) = flow n as k e ((part n as p).headD 0) := congrArg Prod.fst h
  rw [flow_hd hp, flow_hd hp] at z
  exact z
/-- x divides the flow of j and what its part shows, as the mark tells it -/
theorem dvd_of_mark {e : List Nat} {j x : Nat} (hj : j < n) (h1 : x ∣ flow n as k e j) (h2 : ∀ i ∈ part n as j, x ∣ val e i) : x ∣ (markP n as k e (part n as j)).2 := by
  unfold markP
  by_cases h : (part n as j).length = 1
  · rw [if_pos h]
    show x ∣ val e ((part n as j).headD 0) % flow n as k e ((part n as j).headD 0)
    rw [flow_hd hj]
    exact (Nat.dvd_mod_iff h1).mpr (h2 _ (hd_mem hj))
  · rw [if_neg h]
    show x ∣ gcdf _ (flow n as k e ((part n as j).headD 0)) _
    rw [flow_hd hj, dvd_gcdf]
    exact ⟨h1, h2⟩
theorem mark_of_dvd {e : List Nat} {j x : Nat} (hj : j < n) (h1 : x ∣ flow n as k e j) (h2 : x ∣ (markP n as k e (part n as j)).2) : x ∣ val e j := by
  unfold markP at h2
  by_cases h : (part n as j).length = 1
  · rw [if_pos h] at h2
    have h2' : x ∣ val e ((part n as j).headD 0) % flow n as k e ((part n as j).headD 0) := h2
    rw [flow_hd hj] at h2'
    have e1 : (part n as j).headD 0 = j := one_part hj h (hd_lt hj) (hd_eqv hj)
    rw [e1] at h2'
    exact (Nat.dvd_mod_iff h1).mp h2'
  · rw [if_neg h] at h2
    have h2' : x ∣ gcdf (val e) (flow n as k e ((part n as j).headD 0)) (part n as j) := h2
    exact ((dvd_gcdf _ _ _ _).mp h2').2 j (mem_part.mpr ⟨hj, .refl j⟩)
theorem flow_half {d e : List Nat} {p x : Nat} (h : ∀ j ∈ above n as p, flow n as k e j = flow n as k d j ∧ markP n as k e (part n as j) = markP n as k d (part n as j)) (hx : x ∣ flow n as k e p) : x ∣ flow n as k d p := by
  obtain ⟨h1, h2⟩ := dvd_flow.mp hx
  refine dvd_flow.mpr ⟨h1, fun j hj => ?_⟩
  obtain ⟨f, m⟩ := h j hj
  obtain ⟨jn, j1, j2⟩ := mem_above.mp hj
  have hxf : x ∣ flow n as k e j := dvd_flow.mpr ⟨h1, fun i hi => by
    obtain ⟨a, b, c⟩ := mem_above.mp hi
    exact h2 i (mem_above.mpr ⟨a, b.trans j1, fun z => c (j1.trans z)⟩)⟩
  have hxm := dvd_of_mark jn hxf fun i hi => by
    obtain ⟨a, b⟩ := mem_part.mp hi
    exact h2 i (mem_above.mpr ⟨a, b.2.trans j1, fun z => j2 (z.trans b.2)⟩)
  rw [m] at hxm
  rw [f] at hxf
  exact mark_of_dvd jn hxf hxm
theorem marks_of_cnd {d e : List Nat} (h : ∀ p, p < n → cnd (markP n as k d (part n as p)) (part n as p).length ((part n as p).map (val e)) = true) :
    ∀ m p, p < n → (above n as p).length < m → flow n as k e p = flow n as k d p ∧ markP n as k e (part n as p) = markP n as k d (part n as p)
  | 0, _, _, h => absurd h (Nat.not_lt_zero _)
  | m + 1, p, hp, hm => by
    have ih : ∀ j ∈ above n as p, flow n as k e j = flow n as k d j ∧ markP n as k e (part n as j) = markP n as k d (part n as j) := fun j hj => by
      obtain ⟨jn, j1, j2⟩ := mem_above.mp hj
      refine marks_of_cnd h m j jn ?_
      have hN : (above n as j).Nodup := List.nodup_range.sublist List.filter_sublist
      have le := len_le (j :: above n as j) (above n as p) (List.nodup_cons.mpr ⟨fun z => (mem_above.mp z).2.2 (.refl j), hN⟩) fun x hx => by
        rcases List.mem_cons.mp hx with q | q
        · rw [q]; exact hj
        · obtain ⟨a, b, c⟩ := mem_above.mp q
          exact mem_above.mpr ⟨a, b.trans j1, fun z => c (j1.trans z)⟩
      rw [List.length_cons] at le
      omega
    have hf : flow n as k e p = flow n as k d p := eq_of_dvds fun x => ⟨flow_half ih, flow_half fun j hj => ⟨(ih j hj).1.symm, (ih j hj).2.symm⟩⟩
    refine ⟨hf, (mark_cnd hp _ ?_).mp (h p hp)⟩
    rw [hf]
    exact (flow_hd hp).symm
theorem marks_cnd {d e : List Nat} : marksL n as k e = marksL n as k d ↔ ∀ P ∈ partsL n as, cnd (markP n as k d P) P.length (P.map (val e)) = true := by
  rw [marksL_eq]
  constructor
  · intro h P hP
    obtain ⟨p, hp, rfl⟩ := mem_partsL.mp hP
    refine (mark_cnd hp _ ?_).mpr (h p hp)
    rw [flow_mark hp (h p hp)]
    exact (flow_hd hp).symm
  · intro h p hp
    exact (marks_of_cnd (fun p hp => h _ (mem_partsL.mpr ⟨p, hp, rfl⟩)) _ p hp (Nat.lt_succ_self _)).2
/-- the number of the dials that can come -/
theorem count {d : List Nat} {F : List (List Nat)} (hk : 0 < k) (ok : WebOk n as) (hd' : IsDial n k d) (hF : F.Nodup) (hm : ∀ e, e ∈ F ↔ Rea k as d e) :
    F.length = ((partsL n as).map fun P => wayC k (markP n as k d P) P.length).foldl (· * ·) 1 := by
  let G : List Nat → List (List Nat) := fun P => (tuples k P.length).filter (cnd (markP n as k d P) P.length)
  have hG : ∀ P ∈ partsL n as, (G P).Nodup ∧ ∀ c ∈ G P, c.length = P.length := fun P _ => ⟨(nodup_tuples k _).sublist List.filter_sublist, fun c hc => (mem_tuples.mp (List.mem_filter.mp hc).1).1⟩
  have e1 : (blocks ((partsL n as).map G)).length = ((partsL n as).map fun P => wayC k (markP n as k d P) P.length).foldl (· * ·) 1 := by
    rw [len_blocks, List.map_map, foldl_mul, Nat.one_mul]
    rfl
  rw [← e1]
  have memG : ∀ {P c}, c ∈ G P ↔ (c.length = P.length ∧ ∀ x ∈ c, x < k) ∧ cnd (markP n as k d P) P.length c = true := fun {P c} => by
    show c ∈ (tuples k P.length).filter _ ↔ _
    rw [List.mem_filter, mem_tuples]
  have hFd : ∀ e ∈ F, IsDial n k e ∧ ∀ P ∈ partsL n as, P.map (val e) ∈ G P := fun e he => by
    obtain ⟨h1, h2⟩ := (rea_marks hk ok hd').mp ((hm e).mp he)
    refine ⟨h1, fun P hP => memG.mpr ⟨⟨List.length_map _, fun x hx => ?_⟩, marks_cnd.mp h2 P hP⟩⟩
    obtain ⟨i, hi, rfl⟩ := List.mem_map.mp hx
    obtain ⟨p, _, rfl⟩ := mem_partsL.mp hP
    exact h1.getD (mem_part.mp hi).1
  have e2 : (F.map fun e => (partsL n as).flatten.map (val e)).length = F.length := List.length_map _
  rw [← e2]
  refine len_eq ?_ (nodup_blocks _ hG) fun w => ?_
  · refine List.pairwise_map.mpr (hF.imp_of_mem fun {a b} ha hb hne e => hne ?_)
    refine ext_getD (hFd a ha).1.len (hFd b hb).1.len fun i hi => ?_
    exact List.map_inj_left.mp e i (flat_mem.mpr hi)
  · rw [List.mem_map]
    constructor
    · rintro ⟨e, he, rfl⟩
      exact in_blocks _ _ (hFd e he).2
    · intro hw
      have hlen := blocks_len _ (fun P hP => (hG P hP).2) w hw
      let v : Nat → Nat := fun i => w.getD ((partsL n as).flatten.idxOf i) 0
      have hv : (partsL n as).flatten.map v = w := by
        refine List.ext_getElem (by rw [List.length_map]; exact hlen.symm) fun t h1 h2 => ?_
        rw [List.getElem_map]
        show w.getD _ 0 = _
        rw [List.length_map] at h1
        rw [flat_nodup.idxOf_getElem t h1, List.getD_eq_getElem?_getD, List.getElem?_eq_getElem h2]
        rfl
      let e : List Nat := (List.range n).map v
      have ve : ∀ i, i < n → val e i = v i := fun i hi => by
        show ((List.range n).map v).getD i 0 = _
        rw [List.getD_eq_getElem?_getD, List.getElem?_map, List.getElem?_range hi]
        rfl
      have he : (partsL n as).flatten.map (val e) = w := by
        rw [← hv]
        exact List.map_inj_left.mpr fun i hi => ve i (flat_mem.mp hi)
      have hP : ∀ P ∈ partsL n as, P.map (val e) ∈ G P := of_blocks _ _ (fun P hP => (hG P hP).2) (by rw [he]; exact hw)
      have hdial : IsDial n k e := ⟨by show ((List.range n).map v).length = n; simp, fun x hx => by
        obtain ⟨i, hi, rfl⟩ := List.mem_map.mp hx
        have hi := List.mem_range.mp hi
        rw [← ve i hi]
        exact (memG.mp (hP _ (mem_partsL.mpr ⟨i, hi, rfl⟩))).1.2 _ (List.mem_map.mpr ⟨i, mem_part.mpr ⟨hi, .refl i⟩, rfl⟩)⟩
      refine ⟨e, (hm e).mpr ((rea_marks hk ok hd').mpr ⟨hdial, marks_cnd.mpr fun P hP' => (memG.mp (hP P hP')).2⟩), he⟩
end
end Ca

set_option Elab.async false
set_option maxRecDepth 100000
/-! The program's own count of a part, step by step, and that it is the number of a part's dials: few hours, by trying all. -/
namespace Ca
def strip : Nat → Nat → Nat → Nat
  | 0, left, _ => left
  | f + 1, left, prime => if left % prime = 0 then strip f (left / prime) prime else left
def ptRun : Nat → Nat → Nat → Nat → Nat → Option Nat
  | 0, _, _, _, _ => none
  | f + 1, found, left, prime, many =>
    if 1 < left then
      if left % prime = 0 then
        if strip 6 left prime % prime = 0 then none else ptRun f (found / prime ^ many * (prime ^ many - 1)) (strip 6 left prime) (prime + 1) many
      else ptRun f found left (prime + 1) many
    else some found
def ptN (number many : Nat) : Option Nat := ptRun 30 (number ^ many) number 2 many
def most (m : Nat) : Nat := if m = 1 then 24 else if m = 2 then 12 else if m = 3 then 7 else 5
def dvs (k : Nat) : List Nat := (List.range (k + 1)).filter fun g => g != 0 && k % g == 0
def okCell (k g r m : Nat) : Bool := match ptN (g / r) m with
  | some c => wayC k (g, r) m == c * (k / g) ^ m
  | none => false
def tableMany : Bool := [2, 3, 4].all fun m => (List.range (most m + 1)).all fun k => k == 0 || (dvs k).all fun g => (dvs g).all fun r => okCell k g r m
def tableOne : Bool := (List.range 25).all fun k => k == 0 || (dvs k).all fun g => (List.range g).all fun r => wayC k (g, r) 1 == k / g
theorem table_one : tableOne = true := by decide +kernel
theorem table_many : tableMany = true := by decide +kernel
theorem mem_dvs {k g : Nat} (hk : 0 < k) (h : g ∣ k) : g ∈ dvs k := by
  have h1 : g ≤ k := Nat.le_of_dvd hk h
  have h2 : 0 < g := Nat.pos_of_dvd_of_pos h hk
  have h3 : k % g = 0 := Nat.mod_eq_zero_of_dvd h
  unfold dvs
  refine List.mem_filter.mpr ⟨List.mem_range.mpr (by omega), ?_⟩
  simp only [Bool.and_eq_true, bne_iff_ne, beq_iff_eq]
  exact ⟨by omega, h3⟩
theorem way_one {k g r : Nat} (hk : 0 < k) (hk' : k ≤ 24) (hg : g ∣ k) (hr : r < g) : wayC k (g, r) 1 = k / g := by
  have h := table_one
  unfold tableOne at h
  have h1 := List.all_eq_true.mp h k (List.mem_range.mpr (by omega))
  rw [Bool.or_eq_true] at h1
  rcases h1 with z | z
  · have := beq_iff_eq.mp z; omega
  · have h2 := List.all_eq_true.mp z g (mem_dvs hk hg)
    exact beq_iff_eq.mp (List.all_eq_true.mp h2 r (List.mem_range.mpr hr))
theorem way_many {k g r m : Nat} (hm : m = 2 ∨ m = 3 ∨ m = 4) (hk : 0 < k) (hk' : k ≤ most m) (hg : g ∣ k) (hr : r ∣ g) : ∃ c, ptN (g / r) m = some c ∧ wayC k (g, r) m = c * (k / g) ^ m := by
  have h := table_many
  unfold tableMany at h
  have h0 := List.all_eq_true.mp h m (by rcases hm with e | e | e <;> rw [e] <;> simp)
  have h1 := List.all_eq_true.mp h0 k (List.mem_range.mpr (by omega))
  rw [Bool.or_eq_true] at h1
  rcases h1 with z | z
  · have := beq_iff_eq.mp z; omega
  · have h2 := List.all_eq_true.mp z g (mem_dvs hk hg)
    have h3 := List.all_eq_true.mp h2 r (mem_dvs (Nat.pos_of_dvd_of_pos hg hk) hr)
    unfold okCell at h3
    cases q : ptN (g / r) m with
    | none => rw [q] at h3; cases h3
    | some c =>
      rw [q] at h3
      exact ⟨c, rfl, beq_iff_eq.mp h3⟩
end Ca

set_option Elab.async false
set_option linter.all false
set_option maxRecDepth 100000
/-! A rule that the layer lacks: a for over enumerate(t), t a tuple. -/
namespace CaR
open PySem PySem.Spec PyProof.Rows L2

set_option maxHeartbeats 1000000 in
/-- enumerate.__new__ of one argument whose iterator begins as told -/
theorem meets_en1 {v : Value} {ob : Obj} {Z : Heap → Prop} (B : Begins v ob Z) :
    Meets (Builtin.«enumerate.__new__» ⟨[.type "enumerate", v], []⟩) (fun _ R s => Z s.heap ∧
      R (.ok (.ret (.ref (s.heap.push ob).objs.size))) { s with heap := (s.heap.push ob).push { cls := .type "enumerate", data := .fields #[.none, .bool false, .ref s.heap.objs.size, rawInt 0, .none, .none] } }) := by
  refine .of_wp fun P w A R s hs => ?_
  obtain ⟨hp, gg, dr, tk, os⟩ := s
  obtain ⟨z, hs⟩ := hs
  have sub1 := sub_enumerate
  have begin1 : ∀ {A1 : Around} {E1 : Value → Shared → Prop} {Q1 : Value → Shared → Prop}, Q1 (.ref hp.objs.size) ⟨hp.push ob, gg, dr, tk, os⟩ → wpAny (model P w) A1 (pyIter v) Q1 E1 ⟨hp, gg, dr, tk, os⟩ := by
    intro A1 E1 Q1 q
    exact B.iter P w A1 E1 ⟨hp, gg, dr, tk, os⟩ Q1 z q
  wp_walk using begin1
  refine wpAny_stack_any fun stk => wpAny_pure ?_
  split
  · rename_i cc _ _ _ _ _
    cases (cc == Value.type "enumerate") <;> (wp_walk using begin1; exact ⟨_, rfl, hs⟩)
  · wp_walk using begin1
    exact ⟨_, rfl, hs⟩
theorem en1_call {P : Program} {w : World} {A : Around} {E : Value → Shared → Prop} {s : Shared} {v : Value} {ob : Obj} {Z : Heap → Prop} {Q : Value → Shared → Prop} (B : Begins v ob Z) (z : Z s.heap)
    (q : ∀ g, IsEnum g (s.heap.objs.size + 1) s.heap.objs.size 0 .none → g.get? s.heap.objs.size = some ob → (∀ b o, s.heap.get? b = some o → g.get? b = some o) → Q (.ref (s.heap.objs.size + 1)) { s with heap := g }) :
    wpAny (model P w) A (call (.type "enumerate") [v]) Q E s := by
  have sz : (s.heap.push ob).objs.size = s.heap.objs.size + 1 := Heap.size_push ..
  refine callType_new F.called_enumerate (by decide) (F.typeCall_enumerate_1 _) (F.newCall_enumerate_1 _) (fun _ => F.args_object_init_2 _ _) F.entry_enumerate_new (meets_en1 B) ⟨z, ?_⟩
  have top := Heap.get?_push_size (s.heap.push ob) (o := { cls := .type "enumerate", data := .fields #[.none, .bool false, .ref s.heap.objs.size, rawInt 0, .none, .none] }) rfl
  rw [sz] at top
  show _ ∧ _
  rw [sz]
  exact ⟨⟨_, top, rfl⟩, q _ top (Heap.get?_push_of_some _ (Heap.get?_push_size _ B.free)) fun b o e => Heap.get?_push_of_some _ (Heap.get?_push_of_some _ e)⟩

/-- what a turn gives: a new pair of the turn's number and the tuple's item there -/
def ItEn (K : PySem.W.Frag) (a : Addr) : It where
  go := fun i H => ∃ (xs : List V) (x : V), SqT K H a xs ∧ xs[i]? = some x
  yld := fun i H v H' => ∃ T x, v = .ref T ∧ H T = none ∧ H' = upd H T (.tup [.int (i : Nat), x]) ∧ ∀ xs, SqT K H a xs → xs[i]? = some x
  stop := fun i H => ∃ xs : List V, SqT K H a xs ∧ xs.length = i
theorem turn_en {P : Program} {w : World} {K : PySem.W.Frag} {elts : List Expr} {kk : Nat} {tp : Pos} (a e it : Addr) (hae : a ≠ it) (hea : e ≠ a) :
    Turn P w K (.Tuple elts kk tp) (ItEn K a) [e, it] e (fun i h => (∃ old, IsEnum h e it ((i : Nat) : Int) old) ∧ h.IsTupleIter it a i ∧ e ≠ it) where
  mem := List.mem_cons_self
  obj := by
    rintro i h ⟨⟨old, en⟩, ⟨o, ho, hc, hd⟩, _⟩ b hb
    rcases List.mem_cons.mp hb with rfl | hb
    · exact ⟨_, en, fun v q => nomatch q⟩
    · cases List.mem_singleton.mp hb
      exact ⟨o, ho, fun v q => by rw [hd] at q; cases q⟩
  keep := by
    rintro i h h' ⟨⟨old, en⟩, ti, ne⟩ k
    exact ⟨⟨old, k e (by simp) _ en⟩, ti.at fun o q => k it (by simp) o q, ne⟩
  item := by
    rintro X rfl rfl rfl hc i pins s σ H E I hf ⟨⟨old, en⟩, ti, ne⟩ ⟨xs, x, hq, hx⟩
    obtain ⟨us, rv, isT, _⟩ := I.tuple hq
    have isT' : s.heap.IsTuple a us.toArray := isT
    obtain ⟨u, hu, ru⟩ := rv.get hx
    have eSz : e < s.heap.objs.size := Heap.lt_size en
    have iSz : it < s.heap.objs.size := by obtain ⟨_, q, _⟩ := ti; exact Heap.lt_size q
    have D := Draws.tuple (prog := X.prog) (w := X.w) (A := X.A.in1) (I.ok.hd hc) it a hae us.toArray
    have il : i < us.toArray.size := by
      have := (List.getElem?_eq_some_iff.mp hu).1
      simpa using this
    refine wpAny_pyNext_enum_itemC D en ⟨ti, isT'⟩ il ne (by simp [ne, hea]) fun x' g tk px out ti' tup sz kp => ?_
    have ux : x' = u := by
      have : us[i]? = some x' := by simpa using px
      rw [hu] at this
      exact (Option.some.inj this).symm
    subst ux
    refine ⟨_, rfl, wpAny_letOwnedTupleGo_enum (s := { s with heap := g, toks := tk + 1 }) out fun g2 en2 sb => ?_⟩
    have tup2 : g2.get? s.heap.objs.size = some { cls := .type "tuple", data := .seq #[.int i tk, x'] } := (sb.2 _ (Nat.ne_of_gt eSz)).trans tup
    have new : ObjOk X.prog X.w (upd H s.heap.objs.size (.tup [.int (i : Nat), x])) g2 s.heap.objs.size (.tup [.int (i : Nat), x]) :=
      ⟨(by decide : 2 ≤ sizeLine), [.int i tk, x'], .cons ⟨_, rfl⟩ (.cons ru .nil), _, tup2, rfl, _, rfl⟩
    have I2 := I.turnedNew (t' := tk + 1) (ch := [e, it]) (T := s.heap.objs.size) (h' := g2) (fun b ob hb q => (sb.2 b fun z => hb (by simp [z])).trans (kp b ob (fun z => hb (by simp [z])) (fun z => hb (by simp [z])) q)) hf (Nat.le_refl _) new
    refine ⟨.ref s.heap.objs.size, _, I2, rfl, ⟨_, x, rfl, I.hok.fresh (Nat.le_refl _), rfl, fun ys hy => ?_⟩, ⟨⟨x', ?_⟩, ti'.1.at fun o q => (sb.2 it (Ne.symm ne)).trans q, ne⟩, fun b hb => ?_⟩
    · rw [I.tuple_inj hy hq]
      exact hx
    · rw [show ((i + 1 : Nat) : Int) = (i : Int) + 1 by omega]
      exact en2
    · have bl : b < s.heap.objs.size := by
        rcases List.mem_cons.mp hb with rfl | hb
        · exact eSz
        · cases List.mem_singleton.mp hb
          exact iSz
      rw [upd_ne (Nat.ne_of_lt bl)]
      exact (hf b hb).1
  done := by
    rintro X rfl rfl rfl hc i pins s σ H E I hf ⟨⟨old, en⟩, ti, ne⟩ ⟨xs, hq, hx⟩
    obtain ⟨us, rv, isT, _⟩ := I.tuple hq
    have isT' : s.heap.IsTuple a us.toArray := isT
    obtain ⟨f0, f1, f2, f3, f4, f5⟩ := hf it (by simp)
    have D := Draws.tuple (prog := X.prog) (w := X.w) (A := X.A.in1) (I.ok.hd hc) it a hae us.toArray
    have le : us.toArray.size = i := by
      have := rv.length
      simp
      omega
    subst le
    exact wpAny_pyNext_enum_endD D en ⟨ti, isT'⟩ fun g eb => ⟨rfl, I.turned (t' := s.toks) (fun b o hb q => eb b o hb q) f0 f1 f3 f4 f5⟩
  self := by
    rintro A i s Q E ⟨⟨_, en⟩, _⟩ q
    exact wpAny_pyIter_enum en q
def iEnT (K : PySem.W.Frag) (ta : TA) : TI := fun σ H R => ta σ H fun vs H1 => ∃ a xs, vs = [.ref a] ∧ SqT K H1 a xs ∧ R (ItEn K a) H1
theorem pi_enT {X : Cx} {e : Expr} {ta : TA} {p pos tp : Pos} {elts : List Expr} {kk : Nat} (gl : Gl X "enumerate") (mn : X.mg "enumerate" = none) (ha : PA X [e] ta) (hs : starEach [e] X.env = [(false, eval e X.env)] := by rfl) :
    PI X (.Tuple elts kk tp) (.Call (.Name "enumerate" p) [e] [] pos) (iEnT X.K ta) where
  run := by
    intro pins s σ H R I h
    refine Call_ (ld_blt I gl mn boot_enumerate (PyProof.Rows.callWith_type1 (thn (ha.run pos pins s σ H _ I h) ?_) hs rfl))
    rintro us s1 ⟨vs, H1, I1, rel, a, xs, rfl, hq, q⟩
    cases rel with
    | cons r rr =>
      cases rr
      cases r
      obtain ⟨ws, rv, isT, _⟩ := I1.tuple hq
      have aSz : a < s1.heap.objs.size := isT.lt
      refine en1_call (begins_tuple a ws.toArray) isT fun g en itx kp => wpAny_pyIter_enum en ?_
      have ti : g.IsTupleIter s1.heap.objs.size a 0 := ⟨_, itx, rfl, rfl⟩
      refine ⟨s1.heap.objs.size + 1, [s1.heap.objs.size + 1, s1.heap.objs.size], _, _, H1, rfl, I1.kept (t' := s1.toks) kp,
        turn_en a _ _ (Nat.ne_of_lt aSz) (Nat.ne_of_gt (Nat.lt_succ_of_lt aSz)), ⟨⟨.none, en⟩, ti, Nat.succ_ne_self _⟩, fun b hb => ?_, q⟩
      have hle : s1.heap.objs.size ≤ b := by
        rcases List.mem_cons.mp hb with rfl | hb
        · exact Nat.le_succ _
        · cases List.mem_singleton.mp hb
          exact Nat.le_refl _
      exact I1.fpOk hle (I1.hok.fresh hle)
/-- the loop, by what holds ahead of each turn -/
theorem for_enT {K : PySem.W.Frag} {a : Addr} {xs : List V} {g : TG} {tb : TS} {D : Ends} {σ : L2.St} {H : Hp} (Pv : Nat → L2.St → Hp → Prop) (h0 : Pv 0 σ H) (hl : ∀ i σ H, i ≤ xs.length → Pv i σ H → SqT K H a xs)
    (hs : ∀ i x σ H T, xs[i]? = some x → Pv i σ H → H T = none → g (.ref T) σ (upd H T (.tup [.int (i : Nat), x])) fun σ2 H2 => tb { D with nx := Pv (i + 1), ct := Pv (i + 1), bk := D.nx } σ2 H2) (hd : ∀ σ H, Pv xs.length σ H → D.nx σ H) :
    ∃ W : Nat → Nat → L2.St → Hp → Prop, (∃ m, W 0 m σ H) ∧ ∀ i m σ H, W i m σ H →
      ((ItEn K a).stop i H ∧ D.nx σ H) ∨ ((ItEn K a).go i H ∧ ∃ N : L2.St → Hp → Prop, (∀ σ' H', N σ' H' → ∃ m', m' < m ∧ W (i + 1) m' σ' H') ∧ ∀ x H', (ItEn K a).yld i H x H' → g x σ H' fun σ2 H2 => tb { D with nx := N, ct := N, bk := D.nx } σ2 H2) := by
  refine ⟨fun i m σ H => m = xs.length - i ∧ i ≤ xs.length ∧ Pv i σ H, ⟨xs.length, rfl, Nat.zero_le _, h0⟩, ?_⟩
  rintro i m σ H ⟨rfl, le, p⟩
  have q := hl i σ H le p
  rcases Nat.lt_or_ge i xs.length with lt | ge
  · refine .inr ⟨⟨xs, xs[i], q, List.getElem?_eq_getElem lt⟩, Pv (i + 1), fun σ' H' p' => ⟨xs.length - (i + 1), by omega, rfl, lt, p'⟩, ?_⟩
    rintro v H' ⟨T, x, rfl, nT, rfl, y⟩
    exact hs i x σ H T (y xs q) p nT
  · have e : i = xs.length := by omega
    subst e
    exact .inl ⟨⟨xs, q, rfl⟩, hd σ H p⟩
end CaR

set_option Elab.async false
set_option linter.all false
set_option maxRecDepth 100000
/-! A rule that the layer lacks: a dict written with one entry whose key is a tuple. -/
namespace CaR
open PySem PySem.Spec PyProof.Rows L2
/-- {k: v}, k a tuple: the dict stands empty while both are made -/
def tDisp1T (tk tv : TE) : TE := fun σ H Q => ∀ p, H p = none → tk σ (upd H p (.dT [])) fun x H1 => tv σ H1 fun v H2 =>
  H2 p = some (.dT []) ∧ ∃ (b : Addr) (key : List Key), x = .ref b ∧ H2 b = some (.tup (key.map kV)) ∧ Q (.ref p) (upd H2 p (.dT [(key, v)]))
theorem pe_disp1T {X : Cx} {pos : Pos} {ke ve : Expr} {tk tv : TE} (hu : X.A.units + 1 < cLine) (hk : PE X ke tk) (hv : PE X ve tv) : PE X (.Dict [some ke] [ve] pos) (tDisp1T tk tv) where
  run := by
    intro pins s σ H Q I q
    have fr : H s.heap.objs.size = none := I.hok.fresh (Nat.le_refl _)
    have I1 := I.laid (a := s.heap.objs.size) (o := .dT []) (h' := s.heap.push { cls := .type "dict", data := .dict #[] }) (t' := s.toks) (fun _ _ z => Heap.get?_push_of_some _ z) (Nat.le_refl _) (dt_empty s.heap I.big)
    have sh := zip_pairTrees [some ke] [ve] X.env pos rfl rfl
    rw [arm_eval_Dict, sh, dictDisplay_pairs (pairTrees [some ke] [ve] X.env pos) (List.cons_ne_nil _ _) (show 1 < 17 by decide)]
    refine wpAny_bind (wpAny_standAt (wpAny_bind (wpAny_subDictH (knd := tupleKind (mixKind X.prog X.w)) (show X.A.units < cLine by omega) (show 1 ≤ 15 by decide) ?_)))
    refine pairTrees_cons_walk (thn (hk.run pins _ σ _ _ I1 (q _ fr)) ?_)
    rintro u s1 ⟨x, H1, I2, rx, q1⟩
    refine thn (hv.run pins s1 σ H1 _ I2 q1) ?_
    rintro u2 s2 ⟨v, H2, I3, rv, e, b, key, rfl, eb, q2⟩
    cases (show u = Value.ref b from rx)
    refine pairTrees_nil_walk ⟨[(key, b, u2)], ⟨rfl, rfl, key_of I3.hok eb, trivial⟩, ?_, fun g tk dd sb => wpAny_pure ⟨.ref s.heap.objs.size, _, ?_, rfl, q2⟩⟩
    · obtain ⟨_, _, xs, rel, dd⟩ := dt_of I3.hok e
      cases rel
      exact dd
    · obtain ⟨_, hd, _, _, _⟩ := dt_of I3.hok e
      obtain ⟨o, es, ep, ho, h2, h3, h4, _, h5⟩ := dd
      refine d_write I3 (by rw [e]; exact True.intro) sb ⟨o, ho⟩ ⟨(by decide : 1 ≤ sizeLine), hd, [(key, b, u2)], .cons ⟨rfl, ?_, rv⟩ .nil, o, es, ep, ho, h2, h3, h4, h5⟩
      rw [upd_ne (ne_of eb e (fun z => nomatch z))]
      exact eb
end CaR

set_option Elab.async false
set_option linter.all false
set_option maxRecDepth 100000
/-! Rules that the layer lacks: sorted(d.keys()), the keys tuples of ints; sorted(s), s a set of tuples of ints of any lengths. -/
namespace CaR
open PySem PySem.Spec PyProof.Rows L2
open PySem.W (alike EachIs AllAlike Sortable dataLe KdlSrc KdlKeysView)

/-- a row: where it stands, what it holds -/
abbrev Rw := Addr × List Int
def rwD (b : Rw) : PyData := .tuple (b.2.map PyData.int)
def rwV (b : Rw) : Value := Value.ref b.1
def rwX (b : Rw) : V := V.ref b.1
abbrev rwLe : Rw → Rw → Bool := dataLe false rwD
theorem each_rw : ∀ bs : List Rw, EachIs (fun v b => v = rwV b) (bs.map rwV) bs
  | [] => .nil
  | b :: bs => .cons rfl (each_rw bs)
theorem of_each_rw : ∀ {out : List Value} {bs : List Rw}, EachIs (fun v b => v = rwV b) out bs → out = bs.map rwV
  | _, _, .nil => rfl
  | _, _, .cons e t => by rw [e, of_each_rw t]; rfl
theorem each_of_mem {R : Value → Rw → Prop} : ∀ {bs : List Rw}, (∀ b ∈ bs, R (rwV b) b) → EachIs R (bs.map rwV) bs
  | [], _ => .nil
  | b :: bs, h => .cons (h b List.mem_cons_self) (each_of_mem fun c hc => h c (List.mem_cons_of_mem _ hc))
theorem vals_rw : ∀ bs : List Rw, Vals (bs.map rwX) (bs.map rwV)
  | [] => .nil
  | b :: bs => .cons rfl (vals_rw bs)
theorem rd_ints {h : Heap} : ∀ {us : List Value} {ns : List Int}, Vals (ns.map V.int) us → ReadsAll h us (ns.map PyData.int) []
  | [], [], .nil => .nil
  | _ :: _, n :: ns, .cons r t => by
    obtain ⟨tk, rfl⟩ := r
    exact ReadsAll.cons (as := []) (bs := []) (Reads.int n tk) (rd_ints t)
theorem rd_row {X : Cx} {pins : List (Addr × Obj)} {σ : L2.St} {H : Hp} {s : Shared} (I : Inv X pins σ H s) {b : Rw} (h : SqT X.K H b.1 (b.2.map V.int)) : Reads s.heap (rwV b) (rwD b) [] := by
  obtain ⟨us, rv, ⟨o, ho, hc, n, hd⟩, _⟩ := I.tuple h
  exact Reads.tuple ho hc hd (by simpa using rd_ints rv)

section
variable {P : Program} {w : World} {A : Around} {E : Value → Shared → Prop} {s : Shared}
/-- list.sort of the rows, at a -/
theorem sortL {a : Addr} {n : Nat} {bs : List Rw} {Q : Value → Shared → Prop} (ho : s.heap.get? a = some (seqObj "list" (bs.map rwV).toArray n)) (rd : ∀ b ∈ bs, Reads s.heap (rwV b) (rwD b) []) (ne : ∀ b ∈ bs, b.2 ≠ []) (hL : bs.length ≤ sizeLine) (hu : A.units + 3 < cLine)
    (h : Q .none { s with heap := sortedHeap s.heap a (bs.map rwV) ((bs.mergeSort rwLe).map rwV).toArray }) : wpAny (model P w) A (call (.builtin "list.sort") [.ref a]) Q E s := by
  refine PySem.W.list_sort_data (R := fun v b => v = rwV b) (enc := rwD) ho (each_rw bs) (each_of_mem fun b hb => ⟨[], rd b hb, fun z => nomatch z⟩) (AllAlike.of fun b c => ?_) (.inl fun d hd => ?_) hL (fun b _ => ?_) fun out _ e => ?_
  · show alike (.tuple (b.2.map .int)) (.tuple (c.2.map .int)) = true
    unfold alike
    exact PySem.W.alike_ints _ _
  · obtain ⟨b, hb, rfl⟩ := List.mem_map.mp hd
    have n0 := ne b hb
    unfold rwD
    cases q : b.2 with
    | nil => exact absurd q n0
    | cons x r => exact ⟨_, _, rfl⟩
  · have : (rwD b).depth ≤ 1 := by
      unfold rwD PyData.depth
      rw [PySem.W.depth_ints]
      exact Nat.le_refl _
    omega
  · rw [of_each_rw e]
    exact h
/-- what sorted does behind the gathering -/
theorem sortT {bs : List Rw} {Q : Value → Shared → Prop} (rd : ∀ b ∈ bs, Reads s.heap (rwV b) (rwD b) []) (ne : ∀ b ∈ bs, b.2 ≠ []) (hL : bs.length ≤ sizeLine) (hu : A.units + 3 < cLine)
    (h : ∀ g, (∀ b o, s.heap.get? b = some o → g.get? b = some o) → (∃ n, g.get? s.heap.objs.size = some (seqObj "list" ((bs.mergeSort rwLe).map rwV).toArray n)) → Q (.ref s.heap.objs.size) { s with heap := g }) :
    wpAny (model P w) A (call (.builtin "list.sort") [.ref s.heap.objs.size]) (fun _ s' => Q (.ref s.heap.objs.size) s') E { s with heap := s.heap.push { cls := .type "list", data := .seq (bs.map rwV).toArray } } := by
  have at1 : (s.heap.push { cls := .type "list", data := .seq (bs.map rwV).toArray }).get? s.heap.objs.size = some (seqObj "list" (bs.map rwV).toArray 0) := Heap.get?_push_size _ rfl
  have kp1 : ∀ b o, s.heap.get? b = some o → (s.heap.push { cls := .type "list", data := .seq (bs.map rwV).toArray }).get? b = some o := fun b o e => Heap.get?_push_of_some _ e
  refine sortL (s := { s with heap := s.heap.push { cls := .type "list", data := .seq (bs.map rwV).toArray } }) at1 (fun b hb => PyProof.Rows.Reads.keeps kp1 (rd b hb)) ne hL hu (h _ (fun b o e => ?_) ?_)
  · have lt := Heap.lt_size e
    exact (PyProof.Rows.sortedHeap_old (Nat.ne_of_lt lt) (by rw [Heap.size_push]; exact Nat.lt_succ_of_lt lt)).trans (kp1 b o e)
  · exact PyProof.Rows.sortedHeap_at (vs := bs.map rwV) (out := ((bs.mergeSort rwLe).map rwV).toArray) at1
end

/-! ### gathering -/
section
variable {P : Program} {w : World} {A : Around} {E : Value → Shared → Prop} {s : Shared} {T : String} {r d : Addr} {n : Nat} {Pv : Nat → Value → Prop} {OK : Heap → Prop}
/-- what the gathering leaves: all that stood, one list more at the first free place -/
def Gat (s : Shared) (Pv : Nat → Value → Prop) (n : Nat) (q : Result) (s' : Shared) : Prop :=
  ∃ (g : Heap) (tk : Nat) (acc : Array Value) (c : Nat), q = .ok (.ret (.ref s.heap.objs.size)) ∧ s' = { s with heap := g, toks := tk } ∧ (∀ b o, s.heap.get? b = some o → g.get? b = some o) ∧ g.get? s.heap.objs.size = some (seqObj "list" acc c) ∧ ItemsOf Pv acc n
theorem gather {R : List Value → Shared → Prop} (K : KdlSrc P w T r d n Pv OK) (hh : A.handled = none) (ok : OK s.heap) (hn : n ≤ sizeLine)
    (h : ∀ (g : Heap) (tk : Nat) (acc : Array Value), (∀ b o, s.heap.get? b = some o → g.get? b = some o) → s.heap.objs.size ≤ g.objs.size → ItemsOf Pv acc n → R acc.toList { s with heap := g, toks := tk }) :
    wpAny (model P w) A (collect (.ref r)) R E s := by
  obtain ⟨rl, dl⟩ := K.there _ ok
  unfold collect
  refine wpAny_bind (wpAny_runValue (codeAny_builtin F.entry_proto_collect ?_))
  rw [Around.under_plainId F.plain_proto_collect _]
  refine wpAny_bind (wpAny_newObj_type ?_)
  refine wpAny_pure ⟨plainId_quiet F.plain_list_iadd _, codeAny_builtin F.entry_list_iadd ?_⟩
  rw [Around.under_plainId F.plain_list_iadd _]
  have nl : (s.heap.push { cls := .type "list", data := .seq ([] : List Value).toArray }).get? s.heap.objs.size = some { cls := .type "list", data := .seq #[] } := Heap.get?_push_size _ rfl
  have ext := PySem.W.kdl_extend (A := A) (s := { s with heap := s.heap.push { cls := .type "list", data := .seq ([] : List Value).toArray } }) (R := Gat s Pv n) K hh
    (K.keep _ _ ok fun b _ o e => Heap.get?_push_of_some _ e) s.heap.objs.size (Nat.ne_of_gt rl) (Nat.ne_of_gt dl) (.ref s.heap.objs.size) 0 nl
    (fun g tk acc c kp at1 it => ⟨g, tk, acc, c, rfl, rfl, fun b o e => kp b o (Nat.ne_of_lt (Heap.lt_size e)) (Heap.get?_push_of_some _ e), at1, it⟩) hn
  refine wpAny_mono ext ?_ ?_
  · rintro (f | c1) s' x
    · obtain ⟨g, tk, acc, c, e, rfl, kp, at1, it⟩ := x
      cases e
      exact wpAny_bind (m := load s.heap.objs.size) (wpAny_load at1 (wpAny_pure (h g tk acc kp (Nat.le_of_lt (Heap.lt_size at1)) it)))
    · refine ⟨x.1, codeAny_mono x.2 fun q s2 y => ?_⟩
      obtain ⟨g, tk, acc, c, rfl, rfl, kp, at1, it⟩ := y
      exact wpAny_bind (m := load s.heap.objs.size) (wpAny_load at1 (wpAny_pure (h g tk acc kp (Nat.le_of_lt (Heap.lt_size at1)) it)))
  · rintro e s' ⟨_, _, _, _, z, _⟩
    cases z
end

/-! ### d.keys(), and sorted of it -/
/-- the view d.keys() at p -/
def keysO (p d : Addr) : HO := .ext fun h => KdlKeysView h p d
theorem keysO_ok {P : Program} {w : World} {H : Hp} {h : Heap} {p d : Addr} (e : h.get? p = some { cls := .type "dict_keys", data := .fields #[.ref d] }) : ObjOk P w H h p (keysO p d) :=
  ⟨⟨_, e, rfl, rfl⟩, ⟨_, e⟩, fun h1 h2 ⟨o, ho, r⟩ k => ⟨o, k o ho, r⟩⟩
/-- an int's key -/
def kI (i : Int) : L2.Key := Sum.inl i
theorem kV_kI (ns : List Int) : (ns.map kI).map kV = ns.map V.int := by
  rw [List.map_map]
  rfl
section
variable {X : Cx}
def rKeysT : V → List V → Hp → VK → Prop := fun x xs H Q => ∃ (a : Addr) (kvs : List (List L2.Key × V)), x = .ref a ∧ xs = [] ∧ H a = some (.dT kvs) ∧ ∀ p, H p = none → Q (.ref p) (upd H p (keysO p a))
theorem mt_keysT : MtR X "dict.keys" rKeysT := by
  rintro pins s σ H x xs v us Q I rx rxs ⟨a, kvs, rfl, rfl, ha, q⟩
  cases rx
  cases rxs
  obtain ⟨_, hd, xs', rel, o, es, ep, ho, hx, hdat, _⟩ := dt_of I.hok ha
  have raw : s.heap.DictRaw a es ep := ⟨o, ho, hx, hdat⟩
  refine call_meetsIn PySem.F.slot_dict_keys raw.typeIs PySem.F.entry_dict_keys (PySem.F.args_dict_keys_1 _) (meets_dict_keys_raw a hd) ⟨⟨es, ep, raw⟩, ?_⟩
  exact ⟨.ref s.heap.objs.size, _, I.laid (t' := s.toks) (fun b u e => Heap.get?_push_of_some _ e) (Nat.le_refl _) (keysO_ok (Heap.get?_push_size _ rfl)), rfl, q _ (I.hok.fresh (Nat.le_refl _))⟩
/-- behind sorted: the state as it is, the new list tracked -/
theorem sorted_laid {pins : List (Addr × Obj)} {σ : L2.St} {H : Hp} {s s1 : Shared} {g : Heap} {bs : List Rw} {n : Nat} (I : Inv X pins σ H s) (k : ∀ b o, s.heap.get? b = some o → s1.heap.get? b = some o) (le : s.heap.objs.size ≤ s1.heap.objs.size) (gg : s1.gens = s.gens) (oo : s1.os = s.os)
    (kg : ∀ b o, s1.heap.get? b = some o → g.get? b = some o) (at1 : g.get? s1.heap.objs.size = some (seqObj "list" ((bs.map rwV).toArray) n)) (hl : bs.length ≤ sizeLine) :
    H s1.heap.objs.size = none ∧ Inv X pins σ (upd H s1.heap.objs.size (.lst (bs.map rwX))) { s1 with heap := g } := by
  have fr : H s1.heap.objs.size = none := I.hok.fresh le
  have kk : ∀ b o, s.heap.get? b = some o → g.get? b = some o := fun b o e => kg b o (k b o e)
  have J := I.call (g' := s.gens) (t' := s1.toks) (d' := s1.drawn) (ch := []) (Un.laid kk le fr) (I.hok.laid (o := .lst (bs.map rwX)) kk le ⟨(by rw [List.length_map]; exact hl), bs.map rwV, n, vals_rw bs, at1⟩) I.bare (fun _ z => nomatch z)
  obtain ⟨h1, g1, d1, t1, o1⟩ := s1
  cases gg
  cases oo
  exact ⟨fr, J⟩
/-- sorted(d.keys()): all keys, in an order that is left open -/
def rSortKeys : List V → Hp → VK → Prop := fun vs H Q => ∃ (p a : Addr) (kvs : List (List L2.Key × V)) (ks : List (List Int)), vs = [.ref p] ∧ H p = some (keysO p a) ∧ H a = some (.dT kvs) ∧ kvs.map (·.1) = ks.map (·.map kI) ∧ (∀ k ∈ ks, k ≠ []) ∧
  ∀ (L : List Rw) (q : Addr), (∀ x ∈ L, x.2 ∈ ks ∧ H x.1 = some (.tup (x.2.map V.int))) → L.length = ks.length → H q = none → Q (.ref q) (upd H q (.lst (L.map rwX)))
theorem rows_of {H : Hp} : ∀ {kvs : List (List L2.Key × V)} {xs : List (List L2.Key × Addr × Value)} {ks : List (List Int)}, KT H kvs xs → kvs.map (·.1) = ks.map (·.map kI) →
    ∃ L : List Rw, xs.map (fun x => Value.ref x.2.1) = L.map rwV ∧ L.map (·.2) = ks ∧ ∀ x ∈ L, H x.1 = some (.tup (x.2.map V.int))
  | [], [], [], .nil, _ => ⟨[], rfl, rfl, fun _ h => nomatch h⟩
  | kv :: kvs, x :: xs, k :: ks, .cons r t, e => by
    rw [List.map_cons, List.map_cons] at e
    obtain ⟨e1, e2⟩ := List.cons.inj e
    obtain ⟨L, h1, h2, h3⟩ := rows_of t e2
    refine ⟨(x.2.1, k) :: L, by rw [List.map_cons, List.map_cons, h1]; rfl, by rw [List.map_cons, h2], fun y hy => ?_⟩
    rcases List.mem_cons.mp hy with z | z
    · rw [z]
      have r2 := r.2.1
      rw [e1, kV_kI] at r2
      exact r2
    · exact h3 y z
  | [], _, _ :: _, _, e => by simp at e
  | _ :: _, _, [], _, e => by simp at e
theorem cr_sortKeys (hc : X.calm = true) (hu : X.A.units + 8 < cLine) : CallR X (.builtin "sorted") rSortKeys := by
  rintro pins s σ H xs us Q I r ⟨p, a, kvs, ks, rfl, hp, ha, hks, hne, q⟩
  obtain rfl := Vals.ref1 r
  have view : KdlKeysView s.heap p a := (show ObjOk X.prog X.w H s.heap p (keysO p a) from I.hok p _ hp).1
  obtain ⟨hz, hd, xs', rel, o, es, ep, ho, hx, hdat, hes, _, _⟩ := dt_of I.hok ha
  have raw : s.heap.DictRaw a es ep := ⟨o, ho, hx, hdat⟩
  have l2 : es.size = xs'.length := size_of_entries hes
  have l1 : kvs.length = xs'.length := Paired.length rel
  obtain ⟨L, hL1, hL2, hL3⟩ := rows_of rel hks
  have lL : L.length = es.size := by
    have := congrArg List.length hL1
    rw [List.length_map, List.length_map] at this
    omega
  refine PySem.Calls.call_function_entry kind_sorted plain_sorted entry_sorted (args_sorted1 _) ?_
  unfold Builtin.«sorted»
  refine wpAny_bind (m := checkCount "sorted" 1 1 _) (wpAny_pure ?_)
  refine wpAny_bind (gather (A := X.A.in1) (KdlSrc.rawKeys (es := es) (ep := ep)) (I.ok.hd hc) ⟨view, raw⟩ (by omega) fun g tk acc kp szle items => ?_)
  have hacc : acc.toList = L.map rwV := by
    rw [← hL1]
    refine List.ext_getElem (by rw [Array.length_toList, items.1, List.length_map]; exact l2) fun i h1 h2 => ?_
    have hi : i < acc.size := by rw [Array.length_toList] at h1; exact h1
    obtain ⟨hie, ee⟩ := items.2 i _ (Array.getElem?_eq_getElem hi)
    rw [Array.getElem_toList, ee, List.getElem_map]
    have en := entry_at hes i
    rw [Array.getElem?_eq_getElem hie, List.getElem?_eq_getElem (by rw [List.length_map] at h2; exact h2)] at en
    have en' := Option.some.inj en
    rw [en']
    rfl
  rw [hacc]
  refine wpAny_bind (wpAny_newList ?_ (by rw [List.length_map]; omega))
  have rdL : ∀ b ∈ L, Reads g (rwV b) (rwD b) [] := fun b hb => PyProof.Rows.Reads.keeps kp (rd_row I (SqT.of (hL3 b hb)))
  have mem2 : ∀ b ∈ L, b.2 ∈ ks := fun b hb => by
    rw [← hL2]
    exact List.mem_map.mpr ⟨b, hb, rfl⟩
  have srt := sortT (P := X.prog) (w := X.w) (A := X.A.in1) (E := X.xe) (s := { s with heap := g, toks := tk }) (bs := L) (Q := EP X pins σ Q) rdL (fun b hb => hne _ (mem2 b hb)) (by omega) (by show X.A.units + 1 + 3 < cLine; omega) fun g2 kg at2 => ?_
  · refine wpAny_bind (wpAny_holding (wpAny_mono srt (fun _ s' x => ?_) fun _ _ e => e))
    exact wpAny_pure ⟨_, rfl, x⟩
  · obtain ⟨n, at2⟩ := at2
    have pm : (L.mergeSort rwLe).Perm L := List.mergeSort_perm L rwLe
    obtain ⟨fr, J⟩ := sorted_laid (s1 := { s with heap := g, toks := tk }) I kp szle rfl rfl kg at2 (by rw [pm.length_eq]; omega)
    refine ⟨.ref g.objs.size, _, J, rfl, q _ _ (fun x hx => ?_) ?_ fr⟩
    · have hx' := pm.mem_iff.mp hx
      exact ⟨mem2 x hx', hL3 x hx'⟩
    · rw [pm.length_eq, ← hL2, List.length_map]
end
end CaR

set_option Elab.async false
set_option linter.all false
set_option maxRecDepth 100000
/-! sorted(s), s a set of tuples of ints of any lengths (none empty). -/
namespace CaR
open PySem PySem.Spec PyProof.Rows L2
open PySem.W (alike EachIs AllAlike Sortable dataLe KdlSrc KdlKeysView)
theorem rwLe_total : PySem.W.TotalLe rwLe := PySem.W.sortLe_total _ false _
section
variable {X : Cx}
def rSortSet (K : PySem.W.Frag) (P : Program) (w : World) : List V → Hp → VK → Prop := fun vs H Q => ∃ (a : Addr) (L : List Rw), vs = [.ref a] ∧ H a = some (SetTO P w a L) ∧ (∀ p ∈ L, SqT K H p.1 (p.2.map V.int)) ∧ (∀ p ∈ L, p.2 ≠ []) ∧
  ∀ (L' : List Rw) (p : Addr), L'.Perm L → (L'.map (·.2)).Nodup → L'.length < 64 → L'.Pairwise (fun x y => rwLe x y = true) → H p = none → Q (.ref p) (upd H p (.lst (L'.map rwX)))
theorem refs_lift : ∀ {vs : List Value} {L : List Rw}, (∀ v ∈ vs, v ∈ L.map rwV) → ∃ M : List Rw, vs = M.map rwV ∧ ∀ b ∈ M, b ∈ L
  | [], _, _ => ⟨[], rfl, fun _ h => nomatch h⟩
  | v :: vs, L, h => by
    obtain ⟨M, e, m⟩ := refs_lift (vs := vs) (L := L) fun u hu => h u (List.mem_cons_of_mem _ hu)
    obtain ⟨b, hb, rfl⟩ := List.mem_map.mp (h v List.mem_cons_self)
    refine ⟨b :: M, by rw [List.map_cons, ← e], fun c hc => ?_⟩
    rcases List.mem_cons.mp hc with z | z
    · rw [z]; exact hb
    · exact m c z
theorem nodup_of_img {α β : Type} {f : α → β} {l : List α} (h : (l.map f).Nodup) : l.Nodup := (List.pairwise_map.mp h).imp fun {a b} ne e => ne (congrArg f e)
theorem cr_sortSet (hc : X.calm = true) (hu : X.A.units + 8 < cLine) : CallR X (.builtin "sorted") (rSortSet X.K X.prog X.w) := by
  rintro pins s σ H xs us Q I r ⟨a, L, rfl, ha, hk, hne, q⟩
  obtain rfl := Vals.ref1 r
  have R0 : SetT0 X.prog X.w s.heap a L := (I.hok a _ ha).1
  obtain ⟨es, ep, t, R⟩ := R0.full fun p hp => Inv.isT I (hk p hp)
  obtain ⟨o, ho, hex, hd⟩ := R.ob
  have esz := R.size
  have few := R.few
  refine PySem.Calls.call_function_entry kind_sorted plain_sorted entry_sorted (args_sorted1 _) ?_
  unfold Builtin.«sorted»
  refine wpAny_bind (m := checkCount "sorted" 1 1 _) (wpAny_pure ?_)
  refine wpAny_bind (collect_set (A := X.A.in1) (I.ok.hd hc) ⟨o, ho, hex.1, hd⟩ R.fits (by unfold scanBound; omega) R.tab.ris R.led fun s1 vs k1 sz g1 o1 pm => ?_)
  have rows : es.toList.map (·.2) = L.map rwV := by
    rw [R.rows]
    unfold rowsOf
    rw [List.map_map]
    rfl
  rw [rows] at pm
  obtain ⟨M, rfl, sub⟩ := refs_lift (L := L) fun v hv => pm.mem_iff.mp hv
  have inj : ∀ b ∈ L, ∀ c ∈ L, b.1 = c.1 → b = c := fun b hb c hc e => by
    have t1 := R.tup b hb
    have t2 := R.tup c hc
    rw [e] at t1
    exact Prod.ext e (t1.inj t2)
  have nL : L.Nodup := nodup_of_img R.nd
  have nLV : (L.map rwV).Nodup := List.pairwise_map.mpr (nL.imp_of_mem fun {b c} hb hc ne e => ne (inj b hb c hc (Value.ref.inj e)))
  have nM : M.Nodup := nodup_of_img (pm.nodup_iff.mpr nLV)
  have pML : M.Perm L := (List.perm_ext_iff_of_nodup nM nL).mpr fun b => ⟨sub b, fun hb => by
    obtain ⟨c, hc, e⟩ := List.mem_map.mp (pm.mem_iff.mpr (List.mem_map.mpr ⟨b, hb, rfl⟩))
    rw [← inj c (sub c hc) b hb (Value.ref.inj e)]
    exact hc⟩
  have lM : M.length = L.length := pML.length_eq
  have big : L.length ≤ sizeLine := by rw [sizeLine_eq]; omega
  refine wpAny_bind (wpAny_newList ?_ (by rw [List.length_map]; omega))
  have rdM : ∀ b ∈ M, Reads s1.heap (rwV b) (rwD b) [] := fun b hb => PyProof.Rows.Reads.keeps k1 (rd_row I (hk b (sub b hb)))
  have srt := sortT (P := X.prog) (w := X.w) (A := X.A.in1) (E := X.xe) (s := s1) (bs := M) (Q := EP X pins σ Q) rdM (fun b hb => hne b (sub b hb)) (by omega) (by show X.A.units + 1 + 3 < cLine; omega) fun g2 kg at2 => ?_
  · refine wpAny_bind (wpAny_holding (wpAny_mono srt (fun _ s' x => ?_) fun _ _ e => e))
    exact wpAny_pure ⟨_, rfl, x⟩
  · obtain ⟨n, at2⟩ := at2
    have pS : (M.mergeSort rwLe).Perm M := List.mergeSort_perm M rwLe
    obtain ⟨fr, J⟩ := sorted_laid (s1 := s1) I k1 sz g1 o1 kg at2 (by rw [pS.length_eq]; omega)
    have pSL := pS.trans pML
    refine ⟨.ref s1.heap.objs.size, _, J, rfl, q _ _ pSL ((pSL.map (·.2)).nodup_iff.mpr R.nd) (by rw [pSL.length_eq]; exact few) (PySem.W.sort_pairwise rwLe_total M) fr⟩
end
/-! ### the order of rows -/
theorem rwLe_head {a b : Addr} {x y : Int} {r t : List Int} (h : rwLe (a, x :: r) (b, y :: t) = true) : x ≤ y := by
  have e : rwLe (a, x :: r) (b, y :: t) = !PySem.W.dataLt (.tuple ((y :: t).map PyData.int)) (.tuple ((x :: r).map PyData.int)) := rfl
  have e2 : PySem.W.dataLt (.tuple ((y :: t).map PyData.int)) (.tuple ((x :: r).map PyData.int)) = PySem.W.rowLt ((y :: t).map .int) ((x :: r).map .int) := PySem.W.dataLt_tuple _ _
  rw [e, e2, PySem.W.dataLt_ints] at h
  refine Int.not_lt.mp fun lt => ?_
  have : (y :: t : List Int) < x :: r := List.cons_lt_cons_iff.mpr (.inl lt)
  simp [this] at h
theorem rwLe_pair {a b : Addr} {x y x' y' : Int} (h : rwLe (a, [x, y]) (b, [x', y']) = true) : x < x' ∨ (x = x' ∧ y ≤ y') := by
  have e := congrFun (congrFun (PySem.W.dataLe_ii (fun b : Rw => b.2.getD 0 0) (fun b : Rw => b.2.getD 1 0)) (a, [x, y])) (b, [x', y'])
  have e2 : rwLe (a, [x, y]) (b, [x', y']) = PySem.W.dataLe false (fun b : Rw => PyData.tuple [.int (b.2.getD 0 0), .int (b.2.getD 1 0)]) (a, [x, y]) (b, [x', y']) := rfl
  rw [e2, e] at h
  exact of_decide_eq_true h
end CaR

set_option Elab.async false
set_option linter.all false
set_option maxRecDepth 100000
/-! The text by places; what stands in the heap; calls of our own defs. -/
namespace CaW
open PySem L2 CaR
def topS (i : Nat) : Stmt := PySem.Challenge.pw_clockadds_k04_whole_dials_that_come.main.body.getD i (.Pass ⟨0, 0, 0, 0⟩)

/-- the built-in names that the text uses -/
structure Bt (mg : Str → Option Value) : Prop where
  isi : mg "isinstance" = none
  int : mg "int" = none
  bool : mg "bool" = none
  str : mg "str" = none
  tuple : mg "tuple" = none
  list : mg "list" = none
  len : mg "len" = none
  range : mg "range" = none
  abs : mg "abs" = none
  sorted : mg "sorted" = none
  set : mg "set" = none
  enum : mg "enumerate" = none

/-- a def of the text, ready to be called at level k -/
structure Df (P : Program) (w : World) (K : PySem.W.Frag) (mg : Str → Option Value) (base : Heap) (k : Nat) (x : Str) (ps : List Str) (sp : Sp) : Prop where
  ex : ∃ (f : Addr) (fd : FuncData), mg x = some (.ref f) ∧ PySem.W.keepIn K (.ref f) = true ∧ Binds K fd ps [] ∧ FnOk P w K mg base CX0 k f fd ps sp
theorem pe_df {X : Cx} {k : Nat} {x : Str} {ps : List Str} {sp : Sp} (D : Df X.prog X.w X.K X.mg X.base k x ps sp) (hr : Room k X.A) {e : Expr} {es : List Expr} {p pos : Pos} {t : TA} (ha : PA X (e :: es) t)
    (hg : Gl X x := by rfl) (hdb : (x == ("__debug__" : Str)) = false := by decide) (he : starEach (e :: es) X.env = (false, eval e X.env) :: starEach es X.env := by rfl) (hpl : (backTo pos (starEach es X.env)).any (·.1) = false := by rfl) :
    PE X (.Call (.Name x p) (e :: es) [] pos) (tCall sp [] E0 t) := by
  obtain ⟨f, fd, m, kp, b, G⟩ := D.ex
  exact pe_call G hr hg m kp b .nil pass0 ha hdb he hpl

/-- a Nat as a value -/
def iv (n : Nat) : V := .int (n : Int)
theorem iv_inj {a b : Nat} (h : iv a = iv b) : a = b := by
  have := V.int.inj h
  omega
def DialAt (H : Hp) (a : Addr) (d : List Nat) : Prop := H a = some (.tup (d.map iv))
def ListAt (H : Hp) (a : Addr) (d : List Nat) : Prop := H a = some (.lst (d.map iv))
def ArAt (H : Hp) (p : Addr) (e : Nat × Nat) : Prop := H p = some (.tup [iv e.1, iv e.2])
/-- the arrows at t -/
def ArsAt (H : Hp) (t : Addr) (as : Ca.Arrs) : Prop := ∃ ps : List Addr, H t = some (.tup (ps.map V.ref)) ∧ ps.length = as.length ∧ ∀ (i : Nat) (p : Addr) (e : Nat × Nat), ps[i]? = some p → as[i]? = some e → ArAt H p e
def WebAt (H : Hp) (w : Addr) (n : Nat) (as : Ca.Arrs) : Prop := ∃ t, H w = some (.tup [iv n, .ref t]) ∧ ArsAt H t as
/-- what stays -/
theorem DialAt.same {H H' : Hp} {a : Addr} {d : List Nat} (h : DialAt H a d) (s : Same H H') : DialAt H' a d := s _ _ h
theorem ArsAt.same {H H' : Hp} {t : Addr} {as : Ca.Arrs} (h : ArsAt H t as) (s : Same H H') : ArsAt H' t as := by
  obtain ⟨ps, h1, h2, h3⟩ := h
  exact ⟨ps, s _ _ h1, h2, fun i p e a b => s _ _ (h3 i p e a b)⟩
theorem WebAt.same {H H' : Hp} {w n : Nat} {as : Ca.Arrs} (h : WebAt H w n as) (s : Same H H') : WebAt H' w n as := by
  obtain ⟨t, h1, h2⟩ := h
  exact ⟨t, s _ _ h1, h2.same s⟩
theorem same_new {H : Hp} {p : Addr} {o : HO} (h : H p = none) : Same H (upd H p o) := fun b x e => by
  rw [upd_ne (ne_of_none e h)]
  exact e
theorem same_upd' {H H' : Hp} {p : Addr} {o : HO} (s : Same H H') (h : H p = none) : Same H (upd H' p o) := fun b x e => by
  rw [upd_ne (ne_of_none e h)]
  exact s b x e
theorem get_map {α β : Type} {f : α → β} {l : List α} {i : Nat} {y : β} (h : (l.map f)[i]? = some y) : ∃ x, l[i]? = some x ∧ y = f x := by
  rw [List.getElem?_map] at h
  cases e : l[i]? with
  | none => rw [e] at h; cases h
  | some x => rw [e] at h; exact ⟨x, rfl, (Option.some.inj h).symm⟩
theorem get_val {d : List Nat} {i : Nat} (h : i < d.length) : d[i]? = some (Ca.val d i) := by
  unfold Ca.val
  rw [List.getD_eq_getElem?_getD, List.getElem?_eq_getElem h]
  rfl
theorem dial_at {d : List Nat} {i : Nat} (h : i < d.length) : atI (d.map iv) (i : Int) = some (iv (Ca.val d i)) := atI_nat (by rw [List.getElem?_map, get_val h]; rfl)

section
variable {P : Program} {w : World} {K : PySem.W.Frag} {mg : Str → Option Value} {base : Heap}
/-! ### is_in -/
abbrev sIsIn : Stmt := topS 6
theorem scIsIn : FnScope ["value", "least", "most"] ["value", "least", "most"] (defScope sIsIn) := ⟨rfl, rfl, rfl, by decide +kernel, rfl, by decide +kernel, by decide +kernel⟩
def spIsIn : Sp := fun vs H Q _ => ∃ v lo hi : Int, vs = [.int v, .int lo, .int hi] ∧ Q (.bl (decide (lo ≤ v ∧ v ≤ hi))) H
theorem kit_int_bool : kitB "int" "bool" = some false := by decide +kernel
theorem kit_int_int : kitB "int" "int" = some true := by decide +kernel
theorem ok_is_in {f : Addr} {fd : FuncData} (F : Fun K "is_in" "is_in" sIsIn f fd) (B : Bt mg) : FnOk P w K mg base CX0 1 f fd ["value", "least", "most"] spIsIn := by
  refine F.ok scIsIn (fun vs H Q E h => ?_) (fun cdv A outer s H vs Q E hr h => ?_)
  · obtain ⟨_, _, _, rfl, _⟩ := h
    rfl
  · obtain ⟨v, lo, hi, rfl, q⟩ := h
    refine ⟨_, pss_one (ps_ret (pe_and (pe_callB call_isi (by rfl) B.isi (by decide +kernel) (pa_cons (pv 0) (pa_cons (pe_bltn (v := .ty "int") (by rfl) B.int (by decide +kernel) rfl) pa_nil)))
      (pe_and (pe_not (pe_callB call_isi (by rfl) B.isi (by decide +kernel) (pa_cons (pv 0) (pa_cons (pe_bltn (v := .ty "bool") (by rfl) B.bool (by decide +kernel) rfl) pa_nil))))
        (pe_one (pe_chain op_le op_le (pv 1) (pv 0) (pv 2)))))), ?_⟩
    refine ⟨_, rfl, _, _, _, _, true, rfl, .ty _, .base (.int _), kit_ty kit_int_int, true, rfl, ?_⟩
    refine iteT ?_
    refine ⟨_, rfl, _, _, _, _, false, rfl, .ty _, .base (.int _), kit_ty kit_int_bool, false, rfl, true, rfl, iteT ?_⟩
    refine ⟨_, rfl, _, rfl, _, _, rfl, rfl, _, rfl, ?_⟩
    by_cases h1 : lo ≤ v
    · rw [decide_eq_true h1]
      refine iteT ⟨_, rfl, _, _, rfl, rfl, ?_⟩
      show Q (.bl (decide (v ≤ hi))) H
      rw [show decide (v ≤ hi) = decide (lo ≤ v ∧ v ≤ hi) from decide_eq_decide.mpr ⟨fun z => ⟨h1, z⟩, fun z => z.2⟩]
      exact q
    · rw [decide_eq_false h1]
      rw [decide_eq_false (fun z => h1 z.1)] at q
      exact iteF q

/-! ### gcd -/
def spGcd : Sp := fun vs H Q _ => ∃ a b : Nat, vs = [iv a, iv b] ∧ Q (iv (Nat.gcd a b)) H
abbrev sGcd : Stmt := topS 7
theorem scGcd : FnScope ["one", "other"] ["one", "other"] (defScope sGcd) := ⟨rfl, rfl, rfl, by decide +kernel, rfl, by decide +kernel, by decide +kernel⟩
theorem abs_nat (a : Nat) : (if (a : Int) < 0 then -(a : Int) else (a : Int)) = (a : Int) := if_neg (by omega)
theorem emod_nat (a b : Nat) : ((a : Int) % (b : Int)) = ((a % b : Nat) : Int) := (Int.natCast_emod a b).symm
theorem ok_gcd {f : Addr} {fd : FuncData} (F : Fun K "gcd" "gcd" sGcd f fd) (B : Bt mg) : FnOk P w K mg base CX0 1 f fd ["one", "other"] spGcd := by
  refine F.ok scGcd (fun vs H Q E h => ?_) (fun cdv A outer s H vs Q E hr h => ?_)
  · obtain ⟨_, _, rfl, _⟩ := h
    rfl
  · obtain ⟨a, b, rfl, q⟩ := h
    refine ⟨_, pss_cons (ps_par (i := 0) (j := 1) (by rfl) scGcd.nd rfl rfl (by decide) rfl rfl (pa_cons (pe_callB call_abs (by rfl) B.abs (by decide +kernel) (pa_cons (pv 0) pa_nil)) (pa_cons (pe_callB call_abs (by rfl) B.abs (by decide +kernel) (pa_cons (pv 1) pa_nil)) pa_nil)) (by rfl))
      (pss_cons (ps_while PassesOwn.never (pt_cmpR op_ne (pv 1) pe_int (nomark _))
        (pss_one (ps_par (i := 0) (j := 1) (by rfl) scGcd.nd rfl rfl (by decide) rfl rfl (pa_cons (pv 1) (pa_cons (pe_op op_mod (pv 0) (pv 1)) pa_nil)) (by rfl))))
      (pss_one (ps_ret (pv 0)))), ?_⟩
    refine ⟨_, rfl, _, rfl, _, rfl, _, rfl, _, _, rfl, ?_⟩
    rw [abs_nat, abs_nat]
    refine ⟨fun m σ H1 => ∃ x y : Nat, σ = [some (iv x), some (iv y)] ∧ H1 = H ∧ m = y ∧ Nat.gcd x y = Nat.gcd a b, ⟨b, a, b, rfl, rfl, rfl, rfl⟩, ?_⟩
    rintro m σ H1 ⟨x, y, rfl, rfl, rfl, e⟩
    refine ⟨_, rfl, rfl, _, rfl, ?_⟩
    by_cases hy : m = 0
    · subst hy
      refine iteNS rfl ⟨_, rfl, ?_⟩
      rw [Nat.gcd_zero_right] at e
      rw [e]
      exact q
    · have ne : ¬ (V.int (m : Int) = V.int 0) := fun z => hy (by have := V.int.inj z; omega)
      rw [show (iv m) = V.int (m : Int) from rfl, decide_eq_false ne]
      refine iteT ⟨fun σ' H' => ∃ x' y' : Nat, σ' = [some (iv x'), some (iv y')] ∧ H' = H1 ∧ y' < m ∧ Nat.gcd x' y' = Nat.gcd a b, ?_, ?_⟩
      · rintro σ' H' ⟨x', y', rfl, rfl, lt, e'⟩
        exact ⟨y', lt, x', y', rfl, rfl, rfl, e'⟩
      · refine ⟨_, rfl, _, rfl, _, rfl, _, _, rfl, rfl, by omega, _, _, rfl, m, x % m, ?_, rfl, Nat.mod_lt _ (by omega), ?_⟩
        · show [some (V.int (m : Int)), some (V.int ((x : Int) % (m : Int)))] = _
          rw [emod_nat]
          rfl
        · rw [← e, Nat.gcd_comm x m, Nat.gcd_rec m x, Nat.gcd_comm]
/-! ### the law's own gcd -/
abbrev sLGcd : Stmt := topS 41
theorem scLGcd : FnScope ["_law_one", "_law_other"] ["_law_one", "_law_other"] (defScope sLGcd) := ⟨rfl, rfl, rfl, by decide +kernel, rfl, by decide +kernel, by decide +kernel⟩
theorem ok_lgcd {f : Addr} {fd : FuncData} (F : Fun K "_law_gcd" "_law_gcd" sLGcd f fd) (B : Bt mg) : FnOk P w K mg base CX0 1 f fd ["_law_one", "_law_other"] spGcd := by
  refine F.ok scLGcd (fun vs H Q E h => ?_) (fun cdv A outer s H vs Q E hr h => ?_)
  · obtain ⟨_, _, rfl, _⟩ := h
    rfl
  · obtain ⟨a, b, rfl, q⟩ := h
    refine ⟨_, pss_cons (ps_par (i := 0) (j := 1) (by rfl) scLGcd.nd rfl rfl (by decide) rfl rfl (pa_cons (pe_callB call_abs (by rfl) B.abs (by decide +kernel) (pa_cons (pv 0) pa_nil)) (pa_cons (pe_callB call_abs (by rfl) B.abs (by decide +kernel) (pa_cons (pv 1) pa_nil)) pa_nil)) (by rfl))
      (pss_cons (ps_while PassesOwn.never (pt_cmpR op_ne (pv 1) pe_int (nomark _))
        (pss_one (ps_par (i := 0) (j := 1) (by rfl) scLGcd.nd rfl rfl (by decide) rfl rfl (pa_cons (pv 1) (pa_cons (pe_op op_mod (pe_callTy call_int1 (by rfl) B.int (by decide +kernel) (pa_cons (pv 0) pa_nil)) (pv 1)) pa_nil)) (by rfl))))
      (pss_one (ps_ret (pv 0)))), ?_⟩
    refine ⟨_, rfl, _, rfl, _, rfl, _, rfl, _, _, rfl, ?_⟩
    rw [abs_nat, abs_nat]
    refine ⟨fun m σ H1 => ∃ x y : Nat, σ = [some (iv x), some (iv y)] ∧ H1 = H ∧ m = y ∧ Nat.gcd x y = Nat.gcd a b, ⟨b, a, b, rfl, rfl, rfl, rfl⟩, ?_⟩
    rintro m σ H1 ⟨x, y, rfl, rfl, rfl, e⟩
    refine ⟨_, rfl, rfl, _, rfl, ?_⟩
    by_cases hy : m = 0
    · subst hy
      refine iteNS rfl ⟨_, rfl, ?_⟩
      rw [Nat.gcd_zero_right] at e
      rw [e]
      exact q
    · have ne : ¬ (V.int (m : Int) = V.int 0) := fun z => hy (by have := V.int.inj z; omega)
      rw [show (iv m) = V.int (m : Int) from rfl, decide_eq_false ne]
      refine iteT ⟨fun σ' H' => ∃ x' y' : Nat, σ' = [some (iv x'), some (iv y')] ∧ H' = H1 ∧ y' < m ∧ Nat.gcd x' y' = Nat.gcd a b, ?_, ?_⟩
      · rintro σ' H' ⟨x', y', rfl, rfl, lt, e'⟩
        exact ⟨y', lt, x', y', rfl, rfl, rfl, e'⟩
      · refine ⟨_, rfl, _, rfl, .inl ⟨_, rfl, _, rfl, _, _, rfl, rfl, by omega, _, _, rfl, m, x % m, ?_, rfl, Nat.mod_lt _ (by omega), ?_⟩⟩
        · show [some (V.int (m : Int)), some (V.int ((x : Int) % (m : Int)))] = _
          rw [emod_nat]
          rfl
        · rw [← e, Nat.gcd_comm x m, Nat.gcd_rec m x, Nat.gcd_comm]
end
end CaW

set_option Elab.async false
set_option linter.all false
set_option maxRecDepth 100000
/-! The looks at webs, hours and dials: nothing is raised. -/
namespace CaW
open PySem L2 CaR
/-- the written numbers of the top -/
structure Ct (mg : Str → Option Value) : Prop where
  mc : ∃ t, mg "MOST_CLOCKS" = some (.int 7 t)
  lh : ∃ t, mg "LEAST_HOURS" = some (.int 2 t)
  mh : ∃ t, mg "MOST_HOURS" = some (.int 24 t)
theorem kit_tup_tup : kitB "tuple" "tuple" = some true := by decide +kernel
section
variable {P : Program} {w : World} {K : PySem.W.Frag} {mg : Str → Option Value} {base : Heap}
/-! ### is_arrow -/
abbrev nIsArrow : List Str := ["value", "many", "one"]
abbrev sIsArrow : Stmt := topS 12
theorem scIsArrow : FnScope nIsArrow ["value", "many"] (defScope sIsArrow) := ⟨rfl, rfl, rfl, by decide +kernel, rfl, by decide +kernel, by decide +kernel⟩
def spIsArrow : Sp := fun vs H Q _ => ∃ (p : Addr) (n : Nat) (e : Nat × Nat), vs = [.ref p, iv n] ∧ ArAt H p e ∧ e.1 < n ∧ e.2 < n ∧ e.1 ≠ e.2 ∧ ∀ H', Same H H' → Q (.bl true) H'
theorem ok_is_arrow {f : Addr} {fd : FuncData} (F : Fun K "is_arrow" "is_arrow" sIsArrow f fd) (B : Bt mg) (dI : Df P w K mg base 1 "is_in" ["value", "least", "most"] spIsIn) : FnOk P w K mg base CX0 2 f fd ["value", "many"] spIsArrow := by
  refine F.ok scIsArrow (fun vs H Q E h => ?_) (fun cdv A outer s H vs Q E hr h => ?_)
  · obtain ⟨_, _, _, rfl, _⟩ := h
    rfl
  · obtain ⟨p, n, e, rfl, ha, h1, h2, h3, q⟩ := h
    have ha' : H p = some (.tup [iv e.1, iv e.2]) := ha
    refine ⟨_, pss_cons (ps_if (PW.pt (pw_or (pt_not (pt_val (pe_callB call_isi (by rfl) B.isi (by decide +kernel) (pa_cons (pv 0) (pa_cons (pe_bltn (v := .ty "tuple") (by rfl) B.tuple (by decide +kernel) rfl) pa_nil)))))
          (pw_or1 (pt_cmpR op_ne (pe_callB call_len_seq (by rfl) B.len PySem.boot_len (pa_cons (pv 0) pa_nil)) pe_int (nomark _))))) (pss_one (ps_ret pe_bl)) pss_nil)
      (pss_one (ps_ret (pe_and (pe_cmpR (op_eqD hr.units)
          (pe_lc (own := [("one", 2)]) (g := gName 2) (by rfl) scIsArrow.nd (pi_tup (pv 0)) (blkOk_by (N := nIsArrow) (sc := defScope sIsArrow) (by decide +kernel))
            (fun _ _ _ _ _ => pg_name (i := 2) scIsArrow.nd rfl (Or.inl rfl))
            (fun _ _ _ _ _ => pts_one (pt_not (pt_val (pe_df dI hr (pa_cons (pv 2) (pa_cons pe_int (pa_cons (pe_op op_sub (pv 1) pe_int) pa_nil)))))))
            (fun _ _ _ _ _ => pv 2)) (pe_lst pa_nil) (nomark _))
        (pe_one (pe_cmpR op_ne (pe_ix ix_tup (pv 0) pe_int (fun _ _ => rfl)) (pe_ix ix_tup (pv 0) pe_int (fun _ _ => rfl)) (nomark _)))))), ?_⟩
    -- the test
    refine ⟨_, rfl, _, _, _, _, true, rfl, .ty _, .base (.tup ha'), kit_ty kit_tup_tup, true, rfl, ?_⟩
    refine iteF ⟨_, rfl, _, _, rfl, .inr (SqT.of ha'), rfl, _, rfl, ?_⟩
    refine iteF ?_
    -- the comprehension
    refine ⟨_, rfl, p, rfl, ⟨_, SqT.of ha'⟩, fun D hD => ?_⟩
    refine lc_tup (K := K) (a := p) (xs := [iv e.1, iv e.2]) (fun i H1 => Same H H1 ∧ H1 D = some (.lst [])) ⟨same_new hD, upd_same⟩ (fun i H1 _ h => SqT.of (h.1 _ _ ha')) ?_ ?_
    · rintro i x H1 hx ⟨s1, l1⟩
      refine ⟨rfl, ?_⟩
      obtain ⟨v, rfl, hv⟩ : ∃ v : Nat, x = iv v ∧ v < n := by
        match i, hx with
        | 0, hx => exact ⟨e.1, (Option.some.inj hx).symm, h1⟩
        | 1, hx => exact ⟨e.2, (Option.some.inj hx).symm, h2⟩
        | i + 2, hx => simp at hx
      refine ⟨_, rfl, _, rfl, _, _, rfl, rfl, (v : Int), 0, (n : Int) - 1, rfl, _, rfl, ?_⟩
      rw [show decide ((0 : Int) ≤ (v : Int) ∧ (v : Int) ≤ (n : Int) - 1) = true from decide_eq_true ⟨by omega, by omega⟩]
      exact iteF ⟨s1, l1⟩
    · rintro H1 ⟨s1, l1⟩
      refine ⟨Nat.zero_le _, fun l hl => ?_⟩
      have lD : (upd H1 l (.lst [])) D = some (.lst []) := same_new hl _ _ l1
      refine ⟨.list [], .list [], .lst (SqL.of lD) .nil, .lst (SqL.of upd_same) .nil, rfl, rfl, _, rfl, ?_⟩
      have s2 : Same H (upd H1 l (.lst [])) := s1.trans (same_new hl)
      refine iteT ⟨_, rfl, p, _, _, iv e.1, rfl, rfl, SqT.of (s2 _ _ ha'), atI_nat (j := 0) rfl, _, rfl, p, _, _, iv e.2, rfl, rfl, SqT.of (s2 _ _ ha'), atI_nat (j := 1) rfl, rfl, ?_⟩
      rw [decide_eq_false (fun z => h3 (iv_inj z))]
      exact q _ s2

/-! ### need_hours -/
abbrev sNHours : Stmt := topS 14
theorem scNHours : FnScope ["hours"] ["hours"] (defScope sNHours) := ⟨rfl, rfl, rfl, by decide +kernel, rfl, by decide +kernel, by decide +kernel⟩
def spNHours : Sp := fun vs H Q _ => ∃ k : Nat, vs = [iv k] ∧ 2 ≤ k ∧ k ≤ 24 ∧ Q .non H
theorem ok_need_hours {f : Addr} {fd : FuncData} (F : Fun K "need_hours" "need_hours" sNHours f fd) (B : Bt mg) (C : Ct mg) (dI : Df P w K mg base 1 "is_in" ["value", "least", "most"] spIsIn) : FnOk P w K mg base CX0 2 f fd ["hours"] spNHours := by
  refine F.ok scNHours (fun vs H Q E h => ?_) (fun cdv A outer s H vs Q E hr h => ?_)
  · obtain ⟨_, rfl, _⟩ := h
    rfl
  · obtain ⟨k, rfl, h1, h2, q⟩ := h
    obtain ⟨t1, m1⟩ := C.lh
    obtain ⟨t2, m2⟩ := C.mh
    refine ⟨_, pss_one (ps_if (pt_not (pt_val (pe_df dI hr (pa_cons (pv 0) (pa_cons (pe_glob (v := .int 2) (by rfl) m1 ⟨_, rfl⟩) (pa_cons (pe_glob (v := .int 24) (by rfl) m2 ⟨_, rfl⟩) pa_nil)))))) pss_never pss_nil), ?_⟩
    refine ⟨_, rfl, (k : Int), 2, 24, rfl, _, rfl, ?_⟩
    rw [show decide ((2 : Int) ≤ (k : Int) ∧ (k : Int) ≤ 24) = true from decide_eq_true ⟨by omega, by omega⟩]
    exact iteF q

/-! ### need_dial -/
abbrev sNDial : Stmt := topS 15
theorem scNDial : FnScope ["web", "hours", "dial", "index", "one"] ["web", "hours", "dial"] (defScope sNDial) := ⟨rfl, rfl, rfl, by decide +kernel, rfl, by decide +kernel, by decide +kernel⟩
def spNDial : Sp := fun vs H Q _ => ∃ (a b : Addr) (n k : Nat) (as : Ca.Arrs) (d : List Nat), vs = [.ref a, iv k, .ref b] ∧ WebAt H a n as ∧ DialAt H b d ∧ Ca.IsDial n k d ∧ ∀ H', Same H H' → Q .non H'
theorem ok_need_dial {f : Addr} {fd : FuncData} (F : Fun K "need_dial" "need_dial" sNDial f fd) (B : Bt mg) (dI : Df P w K mg base 1 "is_in" ["value", "least", "most"] spIsIn) : FnOk P w K mg base CX0 2 f fd ["web", "hours", "dial"] spNDial := by
  refine F.ok scNDial (fun vs H Q E h => ?_) (fun cdv A outer s H vs Q E hr h => ?_)
  · obtain ⟨_, _, _, _, _, _, rfl, _⟩ := h
    rfl
  · obtain ⟨a, b, n, k, as, d, rfl, hw, hd, hi, q⟩ := h
    have hb : H b = some (.tup (d.map iv)) := hd
    obtain ⟨t, hwa, _⟩ := hw
    refine ⟨_, pss_cons (ps_if (PW.pt (pw_or (pt_not (pt_val (pe_callB call_isi (by rfl) B.isi (by decide +kernel) (pa_cons (pv 2) (pa_cons (pe_bltn (v := .ty "tuple") (by rfl) B.tuple (by decide +kernel) rfl) pa_nil)))))
          (pw_or1 (pt_cmpR op_ne (pe_callB call_len_seq (by rfl) B.len PySem.boot_len (pa_cons (pv 2) pa_nil)) (pe_ix ix_tup (pv 0) pe_int (fun _ _ => rfl)) (nomark _))))) pss_never pss_nil)
      (pss_one (ps_for PassesOwn.never (by rfl) (pi_enT (by rfl) B.enum (pa_cons (pv 2) pa_nil)) (pg_tup rfl (pgs_cons (pg_name (i := 3) scNDial.nd rfl (.inl rfl)) (pgs_cons (pg_name (i := 4) scNDial.nd rfl (.inl rfl)) pgs_nil)))
        (pss_one (ps_if (pt_not (pt_val (pe_df dI hr (pa_cons (pv 4) (pa_cons pe_int (pa_cons (pe_op op_sub (pv 1) pe_int) pa_nil)))))) pss_never pss_nil)))), ?_⟩
    refine ⟨_, rfl, _, _, _, _, true, rfl, .ty _, .base (.tup hb), kit_ty kit_tup_tup, true, rfl, ?_⟩
    refine iteF ⟨_, rfl, _, _, rfl, .inr (SqT.of hb), _, rfl, a, _, _, iv n, rfl, rfl, SqT.of hwa, atI_nat (j := 0) rfl, rfl, _, rfl, ?_⟩
    have el : decide (V.int ((d.map iv).length : Nat) = iv n) = true := decide_eq_true (by rw [List.length_map, hi.len]; rfl)
    rw [el]
    refine iteF ?_
    refine ⟨_, rfl, b, _, rfl, SqT.of hb, ?_⟩
    refine for_enT (K := K) (a := b) (xs := d.map iv) (fun i σ H1 => ∃ x y, σ = [some (.ref a), some (iv k), some (.ref b), x, y] ∧ Same H H1) ⟨none, none, rfl, Same.refl _⟩ ?_ ?_ ?_
    · rintro i σ H1 _ ⟨_, _, rfl, s1⟩
      exact SqT.of (s1 _ _ hb)
    · rintro i x σ H1 T hx ⟨_, _, rfl, s1⟩ nT
      obtain ⟨v, hv, rfl⟩ := get_map hx
      have vk : v < k := hi.lt v (List.mem_of_getElem? hv)
      refine ⟨T, _, rfl, SqT.of upd_same, rfl, _, _, rfl, _, _, rfl, rfl, ?_⟩
      refine ⟨_, rfl, _, rfl, _, _, rfl, rfl, (v : Int), 0, (k : Int) - 1, rfl, _, rfl, ?_⟩
      rw [show decide ((0 : Int) ≤ (v : Int) ∧ (v : Int) ≤ (k : Int) - 1) = true from decide_eq_true ⟨by omega, by omega⟩]
      exact iteF ⟨_, _, rfl, s1.trans (same_new nT)⟩
    · rintro σ H1 ⟨_, _, rfl, s1⟩
      exact q _ s1
end
end CaW

set_option Elab.async false
set_option linter.all false
set_option maxRecDepth 100000
/-! Data of ints and tuples; the look at webs; clocks led from one. -/
namespace CaW
open PySem L2 CaR
/-! ### data -/
def dI (xs : List Nat) : List PyData := xs.map fun (x : Nat) => PyData.int (x : Int)
def dT (xss : List (List Nat)) : List PyData := xss.map fun xs => PyData.tuple (dI xs)
theorem lay_dI : ∀ xs : List Nat, PyData.canLayAll0 (dI xs) = true
  | [] => rfl
  | x :: xs => by
    show (PyData.canLay0 (.int x) && PyData.canLayAll0 (dI xs)) = true
    rw [lay_dI xs]
    rfl
theorem depth_dI : ∀ xs : List Nat, PyData.depthAll (dI xs) = 0
  | [] => rfl
  | x :: xs => by
    show max (PyData.depth (.int x)) (PyData.depthAll (dI xs)) = 0
    rw [depth_dI xs]
    rfl
theorem lay_dT : ∀ xss : List (List Nat), PyData.canLayAll0 (dT xss) = true
  | [] => rfl
  | x :: xss => by
    show (PyData.canLayAll0 (dI x) && PyData.canLayAll0 (dT xss)) = true
    rw [lay_dI x, lay_dT xss]
    rfl
theorem depth_dT : ∀ xss : List (List Nat), PyData.depthAll (dT xss) ≤ 1
  | [] => Nat.zero_le _
  | x :: xss => by
    show max (PyData.depthAll (dI x) + 1) (PyData.depthAll (dT xss)) ≤ 1
    rw [depth_dI x]
    have := depth_dT xss
    omega
theorem shaped_dI (xs : List Nat) : SeqAt.shaped (.list (dI xs)) = true := by
  unfold SeqAt.shaped
  rw [show PyData.canLay0 (.list (dI xs)) = true from lay_dI xs, show PyData.depth (.list (dI xs)) = 1 by show PyData.depthAll (dI xs) + 1 = 1; rw [depth_dI]]
  rfl
theorem shaped_dT (xss : List (List Nat)) : SeqAt.shaped (.list (dT xss)) = true := by
  unfold SeqAt.shaped
  rw [show PyData.canLay0 (.list (dT xss)) = true from lay_dT xss]
  have h := depth_dT xss
  have e : PyData.depth (.list (dT xss)) = PyData.depthAll (dT xss) + 1 := rfl
  rw [Bool.true_and, e]
  exact decide_eq_true (by omega)
theorem dp_iv {K : PySem.W.Frag} {H : Hp} : ∀ xs : List Nat, DpAll K H (xs.map iv) (dI xs)
  | [] => .nil
  | x :: xs => .cons (.int _) (dp_iv xs)
theorem dp_refs {K : PySem.W.Frag} {H : Hp} : ∀ {ps : List Addr} {xss : List (List Nat)}, ps.length = xss.length → (∀ (i : Nat) (p : Addr) (xs : List Nat), ps[i]? = some p → xss[i]? = some xs → DialAt H p xs) → DpAll K H (ps.map V.ref) (dT xss)
  | [], [], _, _ => .nil
  | p :: ps, xs :: xss, hl, h => .cons (.tup (SqT.of (h 0 p xs rfl rfl)) (dp_iv xs)) (dp_refs (by simpa using hl) fun i q ys a b => h (i + 1) q ys (by simpa using a) (by simpa using b))
  | [], _ :: _, hl, _ => by simp at hl
  | _ :: _, [], hl, _ => by simp at hl
theorem eqv_nil (ds : List PyData) : PyData.eqv (.list ds) (.list []) = ds.isEmpty := by
  cases ds <;> rfl
theorem eqv_dI : ∀ xs ys : List Nat, PyData.eqvAll (dI xs) (dI ys) = decide (xs = ys)
  | [], [] => rfl
  | [], _ :: _ => rfl
  | _ :: _, [] => rfl
  | x :: xs, y :: ys => by
    show (PyData.eqv (.int x) (.int y) && PyData.eqvAll (dI xs) (dI ys)) = _
    rw [eqv_dI xs ys]
    show (((x : Int) == (y : Int)) && _) = _
    by_cases h : x = y
    · subst h
      simp
    · have : ¬ ((x : Int) = (y : Int)) := by omega
      simp [h, this]
theorem eqv_dT : ∀ xs ys : List (List Nat), PyData.eqvAll (dT xs) (dT ys) = decide (xs = ys)
  | [], [] => rfl
  | [], _ :: _ => rfl
  | _ :: _, [] => rfl
  | x :: xs, y :: ys => by
    show (PyData.eqvAll (dI x) (dI y) && PyData.eqvAll (dT xs) (dT ys)) = _
    rw [eqv_dT xs ys, eqv_dI x y]
    by_cases h : x = y <;> by_cases h2 : xs = ys <;> simp [h, h2]
theorem flat_iv (xs : List Nat) : (xs.map iv).all flatV = true := by
  induction xs with
  | nil => rfl
  | cons x xs ih => rw [List.map_cons, List.all_cons, ih]; rfl
theorem inV_iv (x : Nat) (xs : List Nat) : inV (iv x) (xs.map iv) = decide (x ∈ xs) := by
  unfold inV
  induction xs with
  | nil => simp
  | cons y xs ih =>
    rw [List.map_cons, List.any_cons, ih]
    show (((y : Int) == (x : Int)) || _) = _
    by_cases h : x = y
    · subst h; simp
    · have : ¬ ((y : Int) = (x : Int)) := by omega
      by_cases h2 : x ∈ xs <;> simp [h, h2, this]

/-! ### webs -/
def lexP (a b : Nat × Nat) : Prop := a.1 < b.1 ∨ (a.1 = b.1 ∧ a.2 < b.2)
structure Wb (n : Nat) (as : Ca.Arrs) : Prop where
  n1 : 1 ≤ n
  n4 : n ≤ 4
  ok : Ca.WebOk n as
  asc : as.Pairwise lexP
theorem leT_false {a b : Nat × Nat} (h : lexP a b) : Ob.lexAt (fun j => decide (([(b.1 : Int), (b.2 : Int)] : List Int).getD j 0 = ([(a.1 : Int), (a.2 : Int)] : List Int).getD j 0)) (fun j => decide (([(b.1 : Int), (b.2 : Int)] : List Int).getD j 0 ≤ ([(a.1 : Int), (a.2 : Int)] : List Int).getD j 0)) (decide (([(b.1 : Int), (b.2 : Int)] : List Int).length ≤ ([(a.1 : Int), (a.2 : Int)] : List Int).length)) 0 (min ([(b.1 : Int), (b.2 : Int)] : List Int).length ([(a.1 : Int), (a.2 : Int)] : List Int).length) = false := by
  obtain ⟨a1, a2⟩ := a
  obtain ⟨b1, b2⟩ := b
  have h : a1 < b1 ∨ (a1 = b1 ∧ a2 < b2) := h
  show (if decide ((b1 : Int) = (a1 : Int)) = true then (if decide ((b2 : Int) = (a2 : Int)) = true then _ else decide ((b2 : Int) ≤ (a2 : Int))) else decide ((b1 : Int) ≤ (a1 : Int))) = false
  rcases h with h | ⟨rfl, h⟩
  · rw [decide_eq_false (by omega : ¬ (b1 : Int) = (a1 : Int)), if_neg Bool.false_ne_true]
    exact decide_eq_false (by omega)
  · rw [decide_eq_true rfl, if_pos rfl, decide_eq_false (by omega : ¬ (b2 : Int) = (a2 : Int)), if_neg Bool.false_ne_true]
    exact decide_eq_false (by omega)
section
variable {P : Program} {w : World} {K : PySem.W.Frag} {mg : Str → Option Value} {base : Heap}
abbrev sNWeb : Stmt := topS 13
theorem scNWeb : FnScope ["web", "index", "one"] ["web"] (defScope sNWeb) := ⟨rfl, rfl, rfl, by decide +kernel, rfl, by decide +kernel, by decide +kernel⟩
def spNWeb : Sp := fun vs H Q _ => ∃ (a : Addr) (n : Nat) (as : Ca.Arrs), vs = [.ref a] ∧ WebAt H a n as ∧ Wb n as ∧ ∀ H', Same H H' → Q .non H'
theorem ok_need_web {f : Addr} {fd : FuncData} (F : Fun K "need_web" "need_web" sNWeb f fd) (B : Bt mg) (C : Ct mg) (dI : Df P w K mg base 1 "is_in" ["value", "least", "most"] spIsIn) (dA : Df P w K mg base 2 "is_arrow" ["value", "many"] spIsArrow) :
    FnOk P w K mg base CX0 3 f fd ["web"] spNWeb := by
  refine F.ok scNWeb (fun vs H Q E h => ?_) (fun cdv A outer s H vs Q E hr h => ?_)
  · obtain ⟨_, _, _, rfl, _⟩ := h
    rfl
  · obtain ⟨a, n, as, rfl, hw, W, q⟩ := h
    obtain ⟨t, hwa, ps, ht, hl, hp⟩ := hw
    obtain ⟨t1, m1⟩ := C.mc
    have hu : 0 < 2 := by decide
    refine ⟨_, pss_cons (ps_if (PW.pt (pw_or (pt_not (pt_val (pe_callB call_isi (by rfl) B.isi (by decide +kernel) (pa_cons (pv 0) (pa_cons (pe_bltn (v := .ty "tuple") (by rfl) B.tuple (by decide +kernel) rfl) pa_nil)))))
          (pw_or (pt_cmpR op_ne (pe_callB call_len_seq (by rfl) B.len PySem.boot_len (pa_cons (pv 0) pa_nil)) pe_int (nomark _))
          (pw_or1 (pt_not (pt_val (pe_callB call_isi (by rfl) B.isi (by decide +kernel) (pa_cons (pe_ix ix_tup (pv 0) pe_int (fun _ _ => rfl)) (pa_cons (pe_bltn (v := .ty "tuple") (by rfl) B.tuple (by decide +kernel) rfl) pa_nil))))))))) pss_never pss_nil)
      (pss_cons (ps_if (pt_not (pt_val (pe_df dI (hr.mono (by decide)) (pa_cons (pe_ix ix_tup (pv 0) pe_int (fun _ _ => rfl)) (pa_cons pe_int (pa_cons (pe_glob (v := .int 7) (by rfl) m1 ⟨_, rfl⟩) pa_nil)))))) pss_never pss_nil)
      (pss_one (ps_for PassesOwn.never (by rfl) (pi_enT (by rfl) B.enum (pa_cons (pe_ix ix_tup (pv 0) pe_int (fun _ _ => rfl)) pa_nil)) (pg_tup rfl (pgs_cons (pg_name (i := 1) scNWeb.nd rfl (.inl rfl)) (pgs_cons (pg_name (i := 2) scNWeb.nd rfl (.inl rfl)) pgs_nil)))
        (pss_one (ps_if (PW.pt (pw_or (pt_not (pt_val (pe_df dA hr (pa_cons (pv 2) (pa_cons (pe_ix ix_tup (pv 0) pe_int (fun _ _ => rfl)) pa_nil)))))
            (pw_or1 (PW.pt (pw_and (pt_cmpR op_gt (pv 1) pe_int (nomark _)) (pw_and1 (pt_cmpR (op_leT hr.units0) (pv 2) (pe_ix ix_tup (pe_ix ix_tup (pv 0) pe_int (fun _ _ => rfl)) (pe_op op_sub (pv 1) pe_int) (fun _ _ => rfl)) (nomark _)))))))) pss_never pss_nil))))), ?_⟩
    -- what web is
    refine ⟨_, rfl, _, _, _, _, true, rfl, .ty _, .base (.tup hwa), kit_ty kit_tup_tup, true, rfl, ?_⟩
    refine iteF ⟨_, rfl, _, _, rfl, .inr (SqT.of hwa), rfl, _, rfl, iteF ?_⟩
    refine ⟨_, rfl, a, _, _, .ref t, rfl, rfl, SqT.of hwa, atI_nat (j := 1) rfl, _, _, _, _, true, rfl, .ty _, .base (.tup ht), kit_ty kit_tup_tup, true, rfl, iteF ?_⟩
    -- its number
    refine ⟨_, rfl, a, _, _, iv n, rfl, rfl, SqT.of hwa, atI_nat (j := 0) rfl, (n : Int), 1, 7, rfl, _, rfl, ?_⟩
    have h17 := W.n1
    have h14 := W.n4
    rw [show decide ((1 : Int) ≤ (n : Int) ∧ (n : Int) ≤ 7) = true from decide_eq_true ⟨by omega, by omega⟩]
    refine iteF ?_
    -- its arrows
    refine ⟨_, rfl, a, _, _, .ref t, rfl, rfl, SqT.of hwa, atI_nat (j := 1) rfl, t, _, rfl, SqT.of ht, ?_⟩
    refine for_enT (K := K) (a := t) (xs := ps.map V.ref) (fun i σ H1 => ∃ x y, σ = [some (.ref a), x, y] ∧ Same H H1) ⟨none, none, rfl, Same.refl _⟩ ?_ ?_ ?_
    · rintro i σ H1 _ ⟨_, _, rfl, s1⟩
      exact SqT.of (s1 _ _ ht)
    · rintro i x σ H1 T hx ⟨_, _, rfl, s1⟩ nT
      obtain ⟨p, hpi, rfl⟩ := get_map hx
      have il : i < as.length := by rw [← hl]; exact (List.getElem?_eq_some_iff.mp hpi).1
      have hai : as[i]? = some as[i] := List.getElem?_eq_getElem il
      obtain ⟨e1, e2, e3⟩ := W.ok _ (List.mem_of_getElem? hai)
      have s2 : Same H (upd H1 T (.tup [.int (i : Nat), .ref p])) := s1.trans (same_new nT)
      refine ⟨T, _, rfl, SqT.of upd_same, rfl, _, _, rfl, _, _, rfl, rfl, ?_⟩
      refine ⟨_, rfl, _, rfl, a, _, _, iv n, rfl, rfl, SqT.of (s2 _ _ hwa), atI_nat (j := 0) rfl, p, n, as[i], rfl, s2 _ _ (hp i p _ hpi hai), e1, e2, e3, fun H3 s3 => ⟨_, rfl, ?_⟩⟩
      refine iteF ?_
      have s4 := s2.trans s3
      refine ⟨_, rfl, _, _, rfl, rfl, _, rfl, ?_⟩
      by_cases h0 : (0 : Int) < (i : Int)
      · rw [decide_eq_true h0]
        refine iteT ?_
        obtain ⟨j, rfl⟩ : ∃ j, i = j + 1 := ⟨i - 1, by omega⟩
        have jl : j < as.length := by omega
        have haj : as[j]? = some as[j] := List.getElem?_eq_getElem jl
        have hpj : ps[j]? = some (ps[j]'(by omega)) := List.getElem?_eq_getElem _
        refine ⟨_, rfl, _, rfl, a, _, _, .ref t, rfl, rfl, SqT.of (s4 _ _ hwa), atI_nat (j := 1) rfl, _, rfl, _, _, rfl, rfl, t, _, _, .ref (ps[j]'(by omega)), rfl, rfl, SqT.of (s4 _ _ ht), at_of (j := j) (by omega) (by rw [List.getElem?_map, hpj]; rfl), ?_⟩
        refine ⟨p, ps[j]'(by omega), [(as[j + 1].1 : Int), (as[j + 1].2 : Int)], [(as[j].1 : Int), (as[j].2 : Int)], rfl, rfl, SqT.of (s4 _ _ (hp _ _ _ hpi hai)), SqT.of (s4 _ _ (hp _ _ _ hpj haj)), _, rfl, ?_⟩
        rw [leT_false (List.pairwise_iff_getElem.mp W.asc j (j + 1) jl il (Nat.lt_succ_self j))]
        exact iteF ⟨_, _, rfl, s4⟩
      · rw [decide_eq_false h0]
        exact iteF (iteF ⟨_, _, rfl, s4⟩)
    · rintro σ H1 ⟨_, _, rfl, s1⟩
      exact q _ s1
/-! ### need_all -/
abbrev sNAll : Stmt := topS 16
theorem scNAll : FnScope ["web", "hours", "dial"] ["web", "hours", "dial"] (defScope sNAll) := ⟨rfl, rfl, rfl, by decide +kernel, rfl, by decide +kernel, by decide +kernel⟩
/-- a web, hours and a dial as they are drawn -/
structure Inp (H : Hp) (a b : Addr) (n k : Nat) (as : Ca.Arrs) (d : List Nat) : Prop where
  wb : Wb n as
  k2 : 2 ≤ k
  k24 : k ≤ 24
  web : WebAt H a n as
  at_ : DialAt H b d
  dial : Ca.IsDial n k d
theorem Inp.same {H H' : Hp} {a b : Addr} {n k : Nat} {as : Ca.Arrs} {d : List Nat} (I : Inp H a b n k as d) (s : Same H H') : Inp H' a b n k as d := ⟨I.wb, I.k2, I.k24, I.web.same s, I.at_.same s, I.dial⟩
def spNAll : Sp := fun vs H Q _ => ∃ (a b : Addr) (n k : Nat) (as : Ca.Arrs) (d : List Nat), vs = [.ref a, iv k, .ref b] ∧ Inp H a b n k as d ∧ ∀ H', Same H H' → Q .non H'
theorem ok_need_all {f : Addr} {fd : FuncData} (F : Fun K "need_all" "need_all" sNAll f fd) (dW : Df P w K mg base 3 "need_web" ["web"] spNWeb) (dH : Df P w K mg base 2 "need_hours" ["hours"] spNHours) (dD : Df P w K mg base 2 "need_dial" ["web", "hours", "dial"] spNDial) :
    FnOk P w K mg base CX0 4 f fd ["web", "hours", "dial"] spNAll := by
  refine F.ok scNAll (fun vs H Q E h => ?_) (fun cdv A outer s H vs Q E hr h => ?_)
  · obtain ⟨_, _, _, _, _, _, rfl, _⟩ := h
    rfl
  · obtain ⟨a, b, n, k, as, d, rfl, I, q⟩ := h
    refine ⟨_, pss_cons (ps_expr (pe_df dW hr (pa_cons (pv 0) pa_nil))) (pss_cons (ps_expr (pe_df dH (hr.mono (by decide)) (pa_cons (pv 1) pa_nil)))
      (pss_one (ps_expr (pe_df dD (hr.mono (by decide)) (pa_cons (pv 0) (pa_cons (pv 1) (pa_cons (pv 2) pa_nil))))))), ?_⟩
    refine ⟨_, rfl, a, n, as, rfl, I.web, I.wb, fun H1 s1 => ?_⟩
    have I1 := I.same s1
    refine ⟨_, rfl, k, rfl, I.k2, I.k24, ?_⟩
    refine ⟨_, rfl, _, rfl, _, rfl, a, b, n, k, as, d, rfl, I1.web, I1.at_, I1.dial, fun H2 s2 => ?_⟩
    exact q _ (s1.trans s2)
end
end CaW

set_option Elab.async false
set_option linter.all false
set_option maxRecDepth 100000
/-! The clocks led from a clock: led_from. -/
namespace Ca
open Classical
noncomputable def led (n : Nat) (as : Arrs) (p : Nat) : List Nat := (List.range n).filter fun j => decide (Rch as p j)
theorem mem_led {n : Nat} {as : Arrs} {p j : Nat} : j ∈ led n as p ↔ j < n ∧ Rch as p j := by simp [led]
theorem led_nodup (n : Nat) (as : Arrs) (p : Nat) : (led n as p).Nodup := List.nodup_range.sublist List.filter_sublist
theorem led_asc (n : Nat) (as : Arrs) (p : Nat) : (led n as p).Pairwise (· < ·) := List.pairwise_lt_range.sublist List.filter_sublist
theorem asc_one {F G : List Nat} {ns : List Int} (pm : ns.Perm (F.map fun (x : Nat) => (x : Int))) (up : ns.Pairwise (· ≤ ·)) (hF : F.Nodup) (hG : G.Pairwise (· < ·)) (h : ∀ x, x ∈ F ↔ x ∈ G) : ns = G.map fun (x : Nat) => (x : Int) := by
  have nG : G.Nodup := hG.imp fun h e => by omega
  have pFG : F.Perm G := (List.perm_ext_iff_of_nodup hF nG).mpr h
  refine List.Perm.eq_of_pairwise (fun a b _ _ h1 h2 => Int.le_antisymm h1 h2) up ?_ (pm.trans (pFG.map _))
  exact List.pairwise_map.mpr (hG.imp fun h => by omega)
/-- what the search keeps: F found, R still to be looked at -/
structure Seek (n : Nat) (as : Arrs) (p : Nat) (F R : List Nat) : Prop where
  nd : F.Nodup
  in_ : ∀ x ∈ F, x < n ∧ Rch as p x
  one : p ∈ F
  sub : ∀ x ∈ R, x ∈ F
  out : ∀ x ∈ F, x ∉ R → ∀ y, (x, y) ∈ as → y ∈ F
theorem Seek.len {n : Nat} {as : Arrs} {p : Nat} {F R : List Nat} (s : Seek n as p F R) : F.length ≤ n := by
  have := len_le F (List.range n) s.nd fun x hx => List.mem_range.mpr (s.in_ x hx).1
  simpa using this
theorem Seek.done {n : Nat} {as : Arrs} {p : Nat} {F : List Nat} (ok : WebOk n as) (s : Seek n as p F []) (x : Nat) : x ∈ F ↔ x ∈ led n as p := by
  rw [mem_led]
  refine ⟨s.in_ x, fun h => ?_⟩
  have h2 := h.2
  clear h
  induction h2 with
  | refl => exact s.one
  | step _ m ih => exact s.out _ ih (fun h => nomatch h) _ m
/-- in the turn for h, behind i arrows -/
structure SeekT (n : Nat) (as : Arrs) (p h i : Nat) (F R : List Nat) : Prop where
  nd : F.Nodup
  in_ : ∀ x ∈ F, x < n ∧ Rch as p x
  one : p ∈ F
  me : h ∈ F
  sub : ∀ x ∈ R, x ∈ F
  out : ∀ x ∈ F, x ∉ R → x ≠ h → ∀ y, (x, y) ∈ as → y ∈ F
  seen : ∀ j y, j < i → as[j]? = some (h, y) → y ∈ F
theorem Seek.turn {n : Nat} {as : Arrs} {p h : Nat} {F R : List Nat} (s : Seek n as p F (R ++ [h])) : SeekT n as p h 0 F R :=
  ⟨s.nd, s.in_, s.one, s.sub h (by simp), fun x hx => s.sub x (by simp [hx]), fun x hx hr ne => s.out x hx (by simp [hr, ne]), fun j y hj => absurd hj (Nat.not_lt_zero _)⟩
theorem SeekT.end_ {n : Nat} {as : Arrs} {p h : Nat} {F R : List Nat} (s : SeekT n as p h as.length F R) : Seek n as p F R :=
  ⟨s.nd, s.in_, s.one, s.sub, fun x hx hr y m => by
    by_cases e : x = h
    · subst e
      obtain ⟨j, hj⟩ := List.mem_iff_getElem?.mp m
      exact s.seen j y (List.getElem?_eq_some_iff.mp hj).1 hj
    · exact s.out x hx hr e y m⟩
theorem SeekT.skip {n : Nat} {as : Arrs} {p h i : Nat} {F R : List Nat} {e : Nat × Nat} (s : SeekT n as p h i F R) (he : as[i]? = some e) (no : e.1 = h → e.2 ∈ F) : SeekT n as p h (i + 1) F R :=
  ⟨s.nd, s.in_, s.one, s.me, s.sub, s.out, fun j y hj hy => by
    by_cases q : j = i
    · subst q
      rw [he] at hy
      cases hy
      exact no rfl
    · exact s.seen j y (by omega) hy⟩
theorem SeekT.more {n : Nat} {as : Arrs} {p h i v : Nat} {F R : List Nat} (ok : WebOk n as) (s : SeekT n as p h i F R) (he : as[i]? = some (h, v)) (no : v ∉ F) : SeekT n as p h (i + 1) (F ++ [v]) (R ++ [v]) where
  nd := by
    rw [List.nodup_append]
    exact ⟨s.nd, by simp, fun a ha b hb e => no (by rw [← List.mem_singleton.mp hb, ← e]; exact ha)⟩
  in_ := fun x hx => by
    rcases List.mem_append.mp hx with q | q
    · exact s.in_ x q
    · rw [List.mem_singleton.mp q]
      have m := List.mem_of_getElem? he
      exact ⟨(ok _ m).2.1, .step (s.in_ h s.me).2 m⟩
  one := List.mem_append_left _ s.one
  me := List.mem_append_left _ s.me
  sub := fun x hx => by
    rcases List.mem_append.mp hx with q | q
    · exact List.mem_append_left _ (s.sub x q)
    · exact List.mem_append_right _ q
  out := fun x hx hr ne y m => by
    rcases List.mem_append.mp hx with q | q
    · exact List.mem_append_left _ (s.out x q (fun z => hr (List.mem_append_left _ z)) ne y m)
    · exact absurd (List.mem_append_right _ q) hr
  seen := fun j y hj hy => by
    by_cases q : j = i
    · subst q
      rw [he] at hy
      cases hy
      exact List.mem_append_right _ (List.mem_singleton.mpr rfl)
    · exact List.mem_append_left _ (s.seen j y (by omega) hy)
theorem SeekT.room {n : Nat} {as : Arrs} {p h i v : Nat} {F R : List Nat} (ok : WebOk n as) (s : SeekT n as p h i F R) (he : as[i]? = some (h, v)) (no : v ∉ F) : F.length < n := by
  have m := List.mem_of_getElem? he
  have := len_le (v :: F) (List.range n) (List.nodup_cons.mpr ⟨no, s.nd⟩) fun x hx => by
    rcases List.mem_cons.mp hx with q | q
    · rw [q]; exact List.mem_range.mpr (ok _ m).2.1
    · exact List.mem_range.mpr (s.in_ x q).1
  rw [List.length_cons, List.length_range] at this
  exact this
end Ca
namespace CaW
open PySem L2 CaR
section
variable {P : Program} {w : World} {K : PySem.W.Frag} {mg : Str → Option Value} {base : Heap}
abbrev nLed : List Str := ["web", "place", "found", "rows", "here", "one", "other"]
abbrev sLed : Stmt := topS 17
theorem scLed : FnScope nLed ["web", "place"] (defScope sLed) := ⟨rfl, rfl, rfl, by decide +kernel, rfl, by decide +kernel, by decide +kernel⟩
def spLed : Sp := fun vs H Q _ => ∃ (a : Addr) (n p : Nat) (as : Ca.Arrs), vs = [.ref a, iv p] ∧ WebAt H a n as ∧ Wb n as ∧ p < n ∧ ∀ H' q, Same H H' → H q = none → ListAt H' q (Ca.led n as p) → Q (.ref q) H'
theorem iv_snoc (F : List Nat) (v : Nat) : F.map iv ++ [iv v] = (F ++ [v]).map iv := by rw [List.map_append]; rfl
theorem int_iv (F : List Nat) : F.map iv = (F.map fun (x : Nat) => (x : Int)).map V.int := by rw [List.map_map]; rfl
theorem small4 {x n : Nat} (h : x ≤ n) (h4 : n ≤ 4) : x < sizeLine := Nat.lt_of_le_of_lt (by omega : x ≤ 4) (by decide)
theorem ok_led_from {f : Addr} {fd : FuncData} (F : Fun K "led_from" "led_from" sLed f fd) (B : Bt mg) : FnOk P w K mg base CX0 1 f fd ["web", "place"] spLed := by
  refine F.ok scLed (fun vs H Q E h => ?_) (fun cdv A outer s H vs Q E hr h => ?_)
  · obtain ⟨_, _, _, _, rfl, _⟩ := h
    rfl
  · obtain ⟨a, n, p, as, rfl, hw, W, hp, q⟩ := h
    obtain ⟨t, hwa, ps, ht, lps, har⟩ := hw
    refine ⟨_, pss_cons (ps_par (i := 2) (j := 3) (by rfl) scLed.nd rfl rfl (by decide) rfl rfl (pa_cons (pe_lst (pa_cons (pv 1) pa_nil)) (pa_cons (pe_lst (pa_cons (pv 1) pa_nil)) pa_nil)) (by rfl))
      (pss_cons (ps_while PassesOwn.never (pt_cmpR (op_neD hr.units) (pv 3) (pe_lst pa_nil) (nomark _))
        (pss_cons (ps_set (i := 4) scLed.nd rfl (.inl rfl) (pe_bm0 PySem.F.plainAttrs_list PySem.F.slot_list_pop PySem.F.type_list_pop mt_pop (pv 3)))
        (pss_one (ps_for PassesOwn.never (by rfl) (pi_tup (pe_ix ix_tup (pv 0) pe_int (fun _ _ => rfl))) (pg_tup rfl (pgs_cons (pg_name (i := 5) scLed.nd rfl (.inl rfl)) (pgs_cons (pg_name (i := 6) scLed.nd rfl (.inl rfl)) pgs_nil)))
          (pss_one (ps_if (PW.pt (pw_and (pt_cmpR op_eq (pv 5) (pv 4) (nomark _)) (pw_and1 (pt_cmpR op_notIn_seq (pv 6) (pv 2) (by rfl)))))
            (pss_cons (ps_expr (pe_bm PySem.F.plainAttrs_list PySem.F.slot_list_append PySem.F.type_list_append mt_append (pv 2) (pa_cons (pv 6) pa_nil)))
            (pss_one (ps_expr (pe_bm PySem.F.plainAttrs_list PySem.F.slot_list_append PySem.F.type_list_append mt_append (pv 3) (pa_cons (pv 6) pa_nil))))) pss_nil))))))
      (pss_one (ps_ret (pe_callB cr_sorted (by rfl) B.sorted (by decide +kernel) (pa_cons (pv 2) pa_nil))))), ?_⟩
    -- found, rows = [place], [place]
    refine ⟨_, rfl, (by show 1 ≤ sizeLine; decide), fun pf nf => ⟨_, rfl, (by show 1 ≤ sizeLine; decide), fun pr nr => ⟨_, _, rfl, ?_⟩⟩⟩
    have nf' : H pf = none := nf
    have nr' : H pr = none := (same_new nf).free nr
    have npr : pf ≠ pr := fun e => by rw [← e, upd_same] at nr; cases nr
    have new2 : Same H (upd (upd H pf (.lst [iv p])) pr (.lst [iv p])) := (same_new nf).trans (same_new nr)
    refine ⟨fun m σ H1 => ∃ (Fd R : List Nat) (x y z : Option V), σ = [some (.ref a), some (iv p), some (.ref pf), some (.ref pr), x, y, z] ∧ Same H H1 ∧ H1 pf = some (.lst (Fd.map iv)) ∧ H1 pr = some (.lst (R.map iv)) ∧ Ca.Seek n as p Fd R ∧ m = 2 * (n - Fd.length) + R.length ∧ m ≤ 2 * n,
      ⟨_, [p], [p], none, none, none, rfl, new2, ?_, upd_same, ⟨by simp, fun x hx => by rw [List.mem_singleton.mp hx]; exact ⟨hp, .refl p⟩, by simp, fun x hx => hx, fun x hx hn => absurd hx hn⟩, rfl, ?_⟩, ?_⟩
    · rw [upd_ne npr, upd_same]
      rfl
    · show 2 * (n - 1) + 1 ≤ 2 * n
      omega
    · rintro m σ H1 ⟨Fd, R, x, y, z, rfl, s1, e1, e2, S, rfl, mm⟩
      -- rows != []
      refine ⟨_, rfl, Nat.zero_le _, fun l hl => ?_⟩
      have s2 : Same H1 (upd H1 l (.lst [])) := same_new hl
      refine ⟨.list (dI R), .list [], .lst (SqL.of (s2 _ _ e2)) (dp_iv R), .lst (SqL.of upd_same) .nil, shaped_dI R, rfl, _, rfl, ?_⟩
      rw [eqv_nil]
      rcases List.eq_nil_or_concat R with rfl | ⟨R', h, rfl⟩
      · -- the end
        refine iteF ⟨_, rfl, pf, _, rfl, (by rw [← int_iv]; exact SqL.of (s2 _ _ e1)), ?_, fun ns q' pm up nq => ?_⟩
        · rw [List.length_map]
          have := S.len
          have := W.n4
          omega
        · have e := Ca.asc_one pm up S.nd (Ca.led_asc n as p) (S.done W.ok)
          refine q _ q' (s1.trans (s2.trans (same_new nq))) ((s1.trans s2).free nq) ?_
          show upd _ q' _ q' = _
          rw [upd_same, e, ← int_iv]
      · have nz : (dI (R'.concat h)).isEmpty = false := by
          rw [List.concat_eq_append]
          unfold dI
          rw [List.map_append]
          cases R' <;> rfl
        rw [nz]
        rw [List.concat_eq_append] at *
        have len0 : (R' ++ [h]).length = R'.length + 1 := by simp
        have fl := S.len
        refine iteT ⟨fun σ' H' => ∃ (Fd' R2 : List Nat) (x y z : Option V), σ' = [some (.ref a), some (iv p), some (.ref pf), some (.ref pr), x, y, z] ∧ Same H H' ∧ H' pf = some (.lst (Fd'.map iv)) ∧ H' pr = some (.lst (R2.map iv)) ∧ Ca.Seek n as p Fd' R2 ∧ 2 * (n - Fd'.length) + R2.length < 2 * (n - Fd.length) + (R' ++ [h]).length, ?_, ?_⟩
        · rintro σ' H' ⟨Fd', R2, x', y', z', rfl, a1, a2, a3, a4, a5⟩
          exact ⟨_, a5, Fd', R2, x', y', z', rfl, a1, a2, a3, a4, rfl, by omega⟩
        · -- here = rows.pop()
          have e2' : (upd H1 l (.lst [])) pr = some (.lst ((R' ++ [h]).map iv)) := s2 _ _ e2
          have lst : ((R' ++ [h]).map iv)[((R' ++ [h]).map iv).length - 1]? = some (iv h) := by
            rw [List.map_append]
            simp
          refine ⟨_, rfl, .inl ⟨rfl, _, SqL.of e2'⟩, pr, _, iv h, rfl, rfl, e2', lst, ?_⟩
          have dl : ((R' ++ [h]).map iv).dropLast = R'.map iv := by rw [List.map_append]; simp
          rw [dl]
          have prl : pr ≠ l := ne_of_none e2 hl
          have npr0 : ∀ b o, H b = some o → b ≠ pr := fun b o e => ne_of_none e nr'
          have npf0 : ∀ b o, H b = some o → b ≠ pf := fun b o e => ne_of_none e nf'
          have s3 : Same H (upd (upd H1 l (.lst [])) pr (.lst (R'.map iv))) := fun b o e => by
            rw [upd_ne (npr0 b o e)]
            exact s2 _ _ (s1 _ _ e)
          -- for one, other in web[1]
          refine ⟨_, rfl, a, _, _, .ref t, rfl, rfl, SqT.of (s3 _ _ hwa), atI_nat (j := 1) rfl, t, rfl, ⟨_, SqT.of (s3 _ _ ht)⟩, ?_⟩
          refine for_tup (K := K) (a := t) (xs := ps.map V.ref) (fun i σ H2 => ∃ (Fd' R2 : List Nat) (y z : Option V), σ = [some (.ref a), some (iv p), some (.ref pf), some (.ref pr), some (iv h), y, z] ∧ Same H H2 ∧ H2 pf = some (.lst (Fd'.map iv)) ∧ H2 pr = some (.lst (R2.map iv)) ∧ Ca.SeekT n as p h i Fd' R2 ∧ 2 * (n - Fd'.length) + R2.length ≤ 2 * (n - Fd.length) + R'.length)
            ⟨Fd, R', y, z, rfl, s3, ?_, upd_same, S.turn, Nat.le_refl _⟩ ?_ ?_ ?_
          · rw [upd_ne npr]
            exact s2 _ _ e1
          · rintro i σ H2 _ ⟨_, _, _, _, rfl, s4, _⟩
            exact SqT.of (s4 _ _ ht)
          · rintro i x σ H2 hx ⟨Fd', R2, y, z, rfl, s4, f1, f2, T, ms⟩
            obtain ⟨b, hbi, rfl⟩ := get_map hx
            have il : i < as.length := by rw [← lps]; exact (List.getElem?_eq_some_iff.mp hbi).1
            have hai : as[i]? = some as[i] := List.getElem?_eq_getElem il
            generalize as[i] = ar at hai
            obtain ⟨u, v⟩ := ar
            -- the pair's two names
            refine ⟨b, _, rfl, SqT.of (s4 _ _ (har i b _ hbi hai)), rfl, _, _, rfl, _, _, rfl, rfl, ?_⟩
            -- one == here
            refine ⟨_, rfl, _, rfl, rfl, _, rfl, ?_⟩
            by_cases hu : u = h
            · subst hu
              rw [decide_eq_true rfl]
              refine iteT ⟨_, rfl, _, rfl, pf, _, rfl, .inl (SqL.of f1), rfl, flat_iv Fd', _, rfl, ?_⟩
              show (if (!inV (iv v) (Fd'.map iv)) = true then _ else _)
              rw [inV_iv]
              by_cases hv : v ∈ Fd'
              · rw [decide_eq_true hv]
                exact iteF ⟨Fd', R2, _, _, rfl, s4, f1, f2, T.skip hai fun _ => hv, ms⟩
              · rw [decide_eq_false hv]
                have rm := T.room W.ok hai hv
                have nn := W.n4
                -- found.append(other); rows.append(other)
                refine iteT ⟨_, rfl, .inl ⟨rfl, _, SqL.of f1⟩, _, rfl, pf, _, _, rfl, rfl, f1, small4 (n := n) (by rw [List.length_map]; omega) nn, ?_⟩
                have g2 : (upd H2 pf (.lst (Fd'.map iv ++ [iv v]))) pr = some (.lst (R2.map iv)) := by
                  rw [upd_ne npr.symm]
                  exact f2
                refine ⟨_, rfl, .inl ⟨rfl, _, SqL.of g2⟩, _, rfl, pr, _, _, rfl, rfl, g2, Nat.lt_of_le_of_lt (by rw [List.length_map]; omega : _ ≤ 8) (by decide), ?_⟩
                refine ⟨Fd' ++ [v], R2 ++ [v], _, _, rfl, fun c o e => ?_, ?_, ?_, T.more W.ok hai hv, ?_⟩
                · rw [upd_ne (npr0 c o e), upd_ne (npf0 c o e)]
                  exact s4 _ _ e
                · rw [upd_ne npr, upd_same, iv_snoc]
                · rw [upd_same, iv_snoc]
                · simp only [List.length_append, List.length_singleton]
                  omega
            · rw [decide_eq_false (fun z => hu (iv_inj z))]
              exact iteF (iteF ⟨Fd', R2, _, _, rfl, s4, f1, f2, T.skip hai fun z => absurd z hu, ms⟩)
          · rintro σ H2 ⟨Fd', R2, y, z, rfl, s4, f1, f2, T, ms⟩
            have e : (ps.map V.ref).length = as.length := by rw [List.length_map, lps]
            rw [e] at T
            exact ⟨Fd', R2, _, _, _, rfl, s4, f1, f2, T.end_, by omega⟩
end
end CaW

set_option Elab.async false
set_option linter.all false
set_option maxRecDepth 100000
/-! Parts of a web, clocks above a clock. -/
namespace Ca
open Classical
theorem part_led (n : Nat) (as : Arrs) (k : Nat) (hk : k < n) : ((led n as k).filter fun j => decide (k ∈ led n as j)) = part n as k := by
  unfold part led
  rw [List.filter_filter]
  refine List.filter_congr fun j hj => ?_
  have hj := List.mem_range.mp hj
  rw [Bool.eq_iff_iff]
  simp only [Bool.and_eq_true, decide_eq_true_eq]
  have := mem_led (n := n) (as := as) (p := j) (j := k)
  unfold led at this
  rw [this]
  exact ⟨fun ⟨h1, h2⟩ => ⟨h2, h1.2⟩, fun ⟨h1, h2⟩ => ⟨⟨hk, h2⟩, h1⟩⟩
/-- the parts that begin below i -/
noncomputable def partsUp (n : Nat) (as : Arrs) (i : Nat) : List (List Nat) := ((List.range i).filter fun p => decide (hd n as p = p)).map (part n as)
theorem partsUp_all (n : Nat) (as : Arrs) : partsUp n as n = partsL n as := rfl
theorem partsUp_yes {n : Nat} {as : Arrs} {i : Nat} (h : hd n as i = i) : partsUp n as (i + 1) = partsUp n as i ++ [part n as i] := by
  unfold partsUp
  rw [List.range_succ, List.filter_append, List.map_append]
  simp [h]
theorem partsUp_no {n : Nat} {as : Arrs} {i : Nat} (h : hd n as i ≠ i) : partsUp n as (i + 1) = partsUp n as i := by
  unfold partsUp
  rw [List.range_succ, List.filter_append, List.map_append]
  simp [h]
theorem hd_le {n : Nat} {as : Arrs} {i : Nat} (h : i < n) : hd n as i ≤ i := by
  have m : i ∈ part n as i := mem_part.mpr ⟨h, .refl i⟩
  have up : (part n as i).Pairwise (· < ·) := List.pairwise_lt_range.sublist List.filter_sublist
  unfold hd
  cases e : part n as i with
  | nil => rw [e] at m; cases m
  | cons x r =>
    rw [e] at m up
    show x ≤ i
    rcases List.mem_cons.mp m with q | q
    · omega
    · have := (List.pairwise_cons.mp up).1 i q
      omega
theorem partsUp_mem {n : Nat} {as : Arrs} {i : Nat} (h : i < n) : part n as i ∈ partsUp n as i ↔ hd n as i ≠ i := by
  unfold partsUp
  rw [List.mem_map]
  constructor
  · rintro ⟨p, hp, e⟩ hi
    rw [List.mem_filter] at hp
    have pi := List.mem_range.mp hp.1
    have hpp : hd n as p = p := by simpa using hp.2
    have : hd n as p = hd n as i := by unfold hd; rw [e]
    omega
  · intro hi
    have le := hd_le (as := as) h
    exact ⟨hd n as i, List.mem_filter.mpr ⟨List.mem_range.mpr (by omega), by simpa using hd_hd h⟩, (part_congr (hd_eqv h)).symm⟩
/-- the clocks below i that lead to p and not back -/
noncomputable def aboveUp (as : Arrs) (p i : Nat) : List Nat := (List.range i).filter fun j => decide (Rch as j p ∧ ¬ Rch as p j)
theorem aboveUp_all (n : Nat) (as : Arrs) (p : Nat) : aboveUp as p n = above n as p := rfl
theorem aboveUp_yes {as : Arrs} {p i : Nat} (h1 : Rch as i p) (h2 : ¬ Rch as p i) : aboveUp as p (i + 1) = aboveUp as p i ++ [i] := by
  unfold aboveUp
  rw [List.range_succ, List.filter_append]
  simp [h1, h2]
theorem aboveUp_no {as : Arrs} {p i : Nat} (h : ¬ (Rch as i p ∧ ¬ Rch as p i)) : aboveUp as p (i + 1) = aboveUp as p i := by
  unfold aboveUp
  rw [List.range_succ, List.filter_append]
  simp [h]
theorem aboveUp_len (as : Arrs) (p i : Nat) : (aboveUp as p i).length ≤ i := Nat.le_trans (List.length_filter_le _ _) (by simp)
theorem partsUp_len {n : Nat} {as : Arrs} {i : Nat} : (partsUp n as i).length ≤ i := by
  unfold partsUp
  rw [List.length_map]
  exact Nat.le_trans (List.length_filter_le _ _) (by simp)
end Ca
namespace CaW
open PySem L2 CaR
theorem u65 {k : Nat} {A : Around} (hr : Room k A) : A.units + 65 < cLine := by
  have := hr.un
  omega
/-- objects at ls, as G says -/
def AllAt (G : Hp → Addr → List Nat → Prop) (H : Hp) (ls : List Addr) (xss : List (List Nat)) : Prop := ls.length = xss.length ∧ ∀ (i : Nat) (p : Addr) (xs : List Nat), ls[i]? = some p → xss[i]? = some xs → G H p xs
theorem AllAt.nil {G : Hp → Addr → List Nat → Prop} {H : Hp} : AllAt G H [] [] := ⟨rfl, fun i p xs h _ => by simp at h⟩
theorem AllAt.mono {G : Hp → Addr → List Nat → Prop} {H H' : Hp} {ls : List Addr} {xss : List (List Nat)} (h : AllAt G H ls xss) (k : ∀ p ∈ ls, ∀ xs, G H p xs → G H' p xs) : AllAt G H' ls xss :=
  ⟨h.1, fun i p xs a b => k p (List.mem_of_getElem? a) xs (h.2 i p xs a b)⟩
theorem AllAt.snoc {G : Hp → Addr → List Nat → Prop} {H : Hp} {ls : List Addr} {xss : List (List Nat)} {p : Addr} {xs : List Nat} (h : AllAt G H ls xss) (hp : G H p xs) : AllAt G H (ls ++ [p]) (xss ++ [xs]) := by
  refine ⟨by rw [List.length_append, List.length_append, h.1]; rfl, fun i q ys a b => ?_⟩
  by_cases hi : i < ls.length
  · rw [List.getElem?_append_left hi] at a
    rw [List.getElem?_append_left (by rw [← h.1]; exact hi)] at b
    exact h.2 i q ys a b
  · rw [List.getElem?_append_right (by omega)] at a
    rw [List.getElem?_append_right (by rw [← h.1]; omega)] at b
    rw [h.1] at a
    cases e : i - xss.length with
    | zero =>
      rw [e] at a b
      cases a
      cases b
      exact hp
    | succ j => rw [e] at a; simp at a
theorem AllAt.at_ {G : Hp → Addr → List Nat → Prop} {H : Hp} {ls : List Addr} {xss : List (List Nat)} {i : Nat} {xs : List Nat} (h : AllAt G H ls xss) (hx : xss[i]? = some xs) : ∃ p, ls[i]? = some p ∧ G H p xs := by
  have il : i < xss.length := (List.getElem?_eq_some_iff.mp hx).1
  have e : ls[i]? = some (ls[i]'(by rw [h.1]; exact il)) := List.getElem?_eq_getElem _
  exact ⟨_, e, h.2 i _ xs e hx⟩
theorem AllAt.of {G : Hp → Addr → List Nat → Prop} {H : Hp} {ls : List Addr} {xss : List (List Nat)} {i : Nat} {p : Addr} (h : AllAt G H ls xss) (hp : ls[i]? = some p) : ∃ xs, xss[i]? = some xs ∧ G H p xs := by
  have il : i < ls.length := (List.getElem?_eq_some_iff.mp hp).1
  have e : xss[i]? = some (xss[i]'(by rw [← h.1]; exact il)) := List.getElem?_eq_getElem _
  exact ⟨_, e, h.2 i p _ hp e⟩
/-- a list of new lists, of new tuples -/
def LsAt (H : Hp) (l : Addr) (xss : List (List Nat)) : Prop := ∃ ls : List Addr, H l = some (.lst (ls.map V.ref)) ∧ AllAt ListAt H ls xss
def TsAt (H : Hp) (l : Addr) (xss : List (List Nat)) : Prop := ∃ ls : List Addr, H l = some (.lst (ls.map V.ref)) ∧ AllAt DialAt H ls xss
theorem LsAt.same {H H' : Hp} {l : Addr} {xss : List (List Nat)} (h : LsAt H l xss) (s : Same H H') : LsAt H' l xss := by
  obtain ⟨ls, h1, h2⟩ := h
  exact ⟨ls, s _ _ h1, h2.mono fun p _ xs g => s _ _ g⟩
theorem TsAt.same {H H' : Hp} {l : Addr} {xss : List (List Nat)} (h : TsAt H l xss) (s : Same H H') : TsAt H' l xss := by
  obtain ⟨ls, h1, h2⟩ := h
  exact ⟨ls, s _ _ h1, h2.mono fun p _ xs g => s _ _ g⟩
theorem TsAt.dp {K : PySem.W.Frag} {H : Hp} {l : Addr} {xss : List (List Nat)} (h : TsAt H l xss) : Dp K H (.ref l) (.list (dT xss)) := by
  obtain ⟨ls, h1, h2⟩ := h
  exact .lst (SqL.of h1) (dp_refs h2.1 h2.2)
theorem DialAt.dp {K : PySem.W.Frag} {H : Hp} {p : Addr} {xs : List Nat} (h : DialAt H p xs) : Dp K H (.ref p) (.tuple (dI xs)) := .tup (SqT.of h) (dp_iv xs)
theorem shaped_tI (xs : List Nat) : SeqAt.shaped (.tuple (dI xs)) = true := by
  unfold SeqAt.shaped
  rw [show PyData.canLay0 (.tuple (dI xs)) = true from lay_dI xs, show PyData.depth (.tuple (dI xs)) = 1 by show PyData.depthAll (dI xs) + 1 = 1; rw [depth_dI]]
  rfl
theorem any_dT (xss : List (List Nat)) (xs : List Nat) : ((dT xss).any fun z => PyData.eqv z (.tuple (dI xs))) = decide (xs ∈ xss) := by
  induction xss with
  | nil => simp [dT]
  | cons y r ih =>
    show (PyData.eqvAll (dI y) (dI xs) || (dT r).any _) = _
    rw [ih, eqv_dI]
    by_cases h : y = xs
    · subst h; simp
    · have h' : ¬ xs = y := fun e => h e.symm
      by_cases h2 : xs ∈ r <;> simp [h, h', h2]
theorem ref_snoc (ls : List Addr) (p : Addr) : ls.map V.ref ++ [.ref p] = (ls ++ [p]).map V.ref := by rw [List.map_append]; rfl
theorem take_snoc {α : Type} {l : List α} {i : Nat} {x : α} (h : l[i]? = some x) : l.take (i + 1) = l.take i ++ [x] := by rw [List.take_add_one, h]; rfl
section
variable {P : Program} {w : World} {K : PySem.W.Frag} {mg : Str → Option Value} {base : Heap}
/-! ### parts_in -/
abbrev nParts : List Str := ["web", "k", "leads_to", "found", "part", "j"]
abbrev sParts : Stmt := topS 18
theorem scParts : FnScope nParts ["web"] (defScope sParts) := ⟨rfl, rfl, rfl, by decide +kernel, rfl, by decide +kernel, by decide +kernel⟩
def spParts : Sp := fun vs H Q _ => ∃ (a : Addr) (n : Nat) (as : Ca.Arrs), vs = [.ref a] ∧ WebAt H a n as ∧ Wb n as ∧ ∀ H' q, Same H H' → TsAt H' q (Ca.partsL n as) → Q (.ref q) H'
noncomputable def leds (n : Nat) (as : Ca.Arrs) : List (List Nat) := (List.range n).map (Ca.led n as)
theorem leds_at {n i : Nat} {as : Ca.Arrs} (h : i < n) : (leds n as)[i]? = some (Ca.led n as i) := by unfold leds; rw [List.getElem?_map, List.getElem?_range h]; rfl
theorem bnd {n : Nat} (h : n ≤ 4) : -(2 ^ 62 : Int) ≤ (n : Int) ∧ (n : Int) < 2 ^ 62 := by omega
theorem ok_parts_in {f : Addr} {fd : FuncData} (F : Fun K "parts_in" "parts_in" sParts f fd) (B : Bt mg) (dL : Df P w K mg base 1 "led_from" ["web", "place"] spLed) : FnOk P w K mg base CX0 2 f fd ["web"] spParts := by
  refine F.ok scParts (fun vs H Q E h => ?_) (fun cdv A outer s H vs Q E hr h => ?_)
  · obtain ⟨_, _, _, rfl, _⟩ := h
    rfl
  · obtain ⟨a, n, as, rfl, hw, W, q⟩ := h
    obtain ⟨t, hwa, har⟩ := id hw
    have n4 := W.n4
    refine ⟨_, pss_cons (ps_set (i := 2) scParts.nd rfl (.inr rfl)
        (pe_lc (own := [("k", 1)]) (g := gName 1) (tt := tYes) (by rfl) scParts.nd (pi_range1 (by rfl) B.range (pa_cons (pe_ix ix_tup (pv 0) pe_int (fun _ _ => rfl)) pa_nil)) (blkOk_by (N := nParts) (sc := defScope sParts) (by decide +kernel))
          (fun _ _ _ _ _ => pg_name (i := 1) scParts.nd rfl (.inl rfl)) (fun _ _ _ _ _ => pts_nil) (fun _ _ _ _ _ => pe_df dL hr (pa_cons (pv 0) (pa_cons (pv 1) pa_nil)))))
      (pss_cons (ps_set (i := 3) scParts.nd rfl (.inl rfl) (pe_lst pa_nil))
      (pss_cons (ps_for PassesOwn.never (by rfl) (pi_range1 (by rfl) B.range (pa_cons (pe_ix ix_tup (pv 0) pe_int (fun _ _ => rfl)) pa_nil)) (pg_name (i := 1) scParts.nd rfl (.inr rfl))
        (pss_cons (ps_set (i := 4) scParts.nd rfl (.inl rfl) (pe_tupleOf (by rfl) B.tuple
            (pe_lc (own := [("j", 5)]) (g := gName 5) (by rfl) scParts.nd (pi_list (pe_ix ix_list (pv 2) (pv 1) (fun _ _ => rfl))) (blkOk_by (N := nParts) (sc := defScope sParts) (by decide +kernel))
              (fun _ _ _ _ _ => pg_name (i := 5) scParts.nd rfl (.inl rfl)) (fun _ _ _ _ _ => pts_one (pt_cmpR (r := rIn K false) op_in_seq (pv 1) (pe_ix (r := rIxL K) ix_list (pv 2) (pv 5) (fun _ _ => rfl)) (by rfl))) (fun _ _ _ _ _ => pv 5))))
        (pss_one (ps_if (pt_cmpR (op_notInD (u65 hr)) (pv 4) (pv 3) (by rfl))
          (pss_one (ps_expr (pe_bm PySem.F.plainAttrs_list PySem.F.slot_list_append PySem.F.type_list_append mt_append (pv 3) (pa_cons (pv 4) pa_nil)))) pss_nil))))
      (pss_one (ps_ret (pv 3))))), ?_⟩
    -- leads_to
    refine ⟨_, rfl, a, _, _, iv n, rfl, rfl, SqT.of hwa, atI_nat (j := 0) rfl, (n : Int), rfl, (bnd n4).1, (bnd n4).2, fun D hD => ?_⟩
    refine lc_range (lo := 0) (n := (n : Int).toNat) (fun i H1 => Same H H1 ∧ ∃ ls : List Addr, H1 D = some (.lst (ls.map V.ref)) ∧ (∀ p ∈ ls, p ≠ D) ∧ AllAt ListAt H1 ls ((leds n as).take i)) ⟨same_new hD, [], upd_same, (fun _ h => nomatch h), AllAt.nil⟩ ?_ ?_
    · rintro i H1 hi ⟨s1, ls, e1, ne, al⟩
      have il : i < n := by omega
      refine ⟨rfl, ?_⟩
      refine ⟨_, rfl, _, rfl, a, n, i, as, ?_, hw.same s1, W, il, fun H2 p s2 np lp => ?_⟩
      · show [V.ref a, V.int (0 + (i : Int))] = _
        rw [Int.zero_add]
        rfl
      · have pD : p ≠ D := fun e => by rw [e, e1] at np; cases np
        have e2 := s2 _ _ e1
        have ll : ls.length = i := by
          rw [al.1, List.length_take]
          unfold leds
          rw [List.length_map, List.length_range]
          omega
        refine ⟨_, e2, small4 (n := n) (by rw [List.length_map]; omega) n4, fun c o e => ?_, ls ++ [p], ?_, ?_, ?_⟩
        · rw [upd_ne (ne_of_none e hD)]
          exact s2 _ _ (s1 _ _ e)
        · rw [upd_same, ref_snoc]
        · intro c hc
          rcases List.mem_append.mp hc with z | z
          · exact ne c z
          · rw [List.mem_singleton.mp z]; exact pD
        · rw [take_snoc (leds_at il)]
          refine AllAt.snoc (al.mono fun c hc xs g => ?_) ?_
          · show upd H2 D _ c = _
            rw [upd_ne (ne c hc)]
            exact s2 _ _ g
          · show upd H2 D _ p = _
            rw [upd_ne pD]
            exact lp
    · rintro H1 ⟨s1, ls, e1, ne, al⟩
      have et : (leds n as).take (n : Int).toNat = leds n as := List.take_of_length_le (by unfold leds; rw [List.length_map, List.length_range]; omega)
      rw [et] at al
      -- found = []
      refine ⟨Nat.zero_le _, fun pf nf => ?_⟩
      have s2 : Same H1 (upd H1 pf (.lst [])) := same_new nf
      have w2 := s1.trans s2
      have nf0 : H pf = none := s1.free nf
      refine ⟨_, rfl, a, _, _, iv n, rfl, rfl, SqT.of (w2 _ _ hwa), atI_nat (j := 0) rfl, (n : Int), rfl, (bnd n4).1, (bnd n4).2, ?_⟩
      refine for_range (lo := 0) (n := (n : Int).toNat) (fun i σ H2 => ∃ (x y : Option V) (fs : List Addr), σ = [some (.ref a), x, some (.ref D), some (.ref pf), y, none] ∧ (∀ c o, H1 c = some o → c ≠ pf → H2 c = some o) ∧ H2 pf = some (.lst (fs.map V.ref)) ∧ AllAt DialAt H2 fs (Ca.partsUp n as i))
        ⟨none, none, [], rfl, fun c o e _ => s2 _ _ e, upd_same, AllAt.nil⟩ ?_ ?_
      · rintro i σ H2 hi ⟨x, y, fs, rfl, s3, f1, fa⟩
        have il : i < n := by omega
        have H1pf : ∀ c o, H1 c = some o → H2 c = some o := fun c o e => s3 c o e (ne_of_none e nf)
        have lD : H2 D = some (.lst (ls.map V.ref)) := H1pf _ _ e1
        have al2 : AllAt ListAt H2 ls (leds n as) := al.mono fun c _ xs g => H1pf _ _ g
        obtain ⟨pk, hpk, gpk⟩ := al2.at_ (leds_at il)
        have i0 : (V.int (0 + (i : Int))) = iv i := by rw [Int.zero_add]; rfl
        rw [i0]
        -- part = tuple([..])
        refine ⟨_, rfl, _, rfl, D, _, _, .ref pk, rfl, rfl, SqL.of lD, atI_nat (j := i) (by rw [List.getElem?_map, hpk]; rfl), pk, rfl, ⟨_, SqL.of gpk⟩, fun E1 hE => ?_⟩
        refine lc_list (K := K) (a := pk) (xs := (Ca.led n as i).map iv) (fun m H3 => Same H2 H3 ∧ H3 E1 = some (.lst ((((Ca.led n as i).take m).filter fun j => decide (i ∈ Ca.led n as j)).map iv))) ⟨same_new hE, upd_same⟩ (fun m H3 _ z => SqL.of (z.1 _ _ gpk)) ?_ ?_
        · rintro m v H3 hv ⟨s4, g1⟩
          obtain ⟨j, hj, rfl⟩ := get_map hv
          have jn : j < n := (Ca.mem_led.mp (List.mem_of_getElem? hj)).1
          obtain ⟨pj, hpj, gpj⟩ := al2.at_ (leds_at jn)
          refine ⟨rfl, ?_⟩
          refine ⟨_, rfl, _, rfl, _, rfl, D, _, _, .ref pj, rfl, rfl, SqL.of (s4 _ _ lD), atI_nat (j := j) (by rw [List.getElem?_map, hpj]; rfl), pj, _, rfl, .inl (SqL.of (s4 _ _ gpj)), rfl, flat_iv _, _, rfl, ?_⟩
          show (if inV (iv i) ((Ca.led n as j).map iv) = true then _ else _)
          rw [inV_iv]
          by_cases hm : i ∈ Ca.led n as j
          · rw [decide_eq_true hm]
            refine iteT ⟨_, rfl, _, g1, ?_, fun c o e => ?_, ?_⟩
            · refine small4 (n := n) ?_ n4
              rw [List.length_map]
              refine Nat.le_trans (List.length_filter_le _ _) ?_
              rw [List.length_take]
              refine Nat.le_trans (Nat.min_le_right _ _) ?_
              exact Nat.le_trans (List.length_filter_le _ _) (by simp)
            · rw [upd_ne (ne_of_none e hE)]
              exact s4 _ _ e
            · rw [upd_same, take_snoc hj, List.filter_append, iv_snoc]
              simp [hm]
          · rw [decide_eq_false hm]
            refine iteF ⟨s4, ?_⟩
            rw [take_snoc hj, List.filter_append]
            simp [hm]
            exact g1
        · rintro H3 ⟨s4, g1⟩
          rw [List.length_map, List.take_length, Ca.part_led n as i il] at g1
          refine .inl ⟨E1, _, rfl, SqL.of g1, fun pt npt => ?_⟩
          have s5 : Same H2 (upd H3 pt (.tup ((Ca.part n as i).map iv))) := s4.trans (same_new npt)
          -- if part not in found
          have fa5 : AllAt DialAt (upd H3 pt (.tup ((Ca.part n as i).map iv))) fs (Ca.partsUp n as i) := fa.mono fun c _ xs g => s5 _ _ g
          have dpart : DialAt (upd H3 pt (.tup ((Ca.part n as i).map iv))) pt (Ca.part n as i) := upd_same
          refine ⟨_, rfl, _, rfl, .tuple (dI (Ca.part n as i)), dT (Ca.partsUp n as i), dpart.dp, TsAt.dp ⟨fs, s5 _ _ f1, fa5⟩, shaped_tI _, shaped_dT _, _, rfl, ?_⟩
          rw [any_dT]
          by_cases hh : Ca.hd n as i = i
          · have nm : ¬ Ca.part n as i ∈ Ca.partsUp n as i := fun z => (Ca.partsUp_mem il).mp z hh
            rw [decide_eq_false nm]
            have fl : fs.length ≤ i := by rw [fa.1]; exact Ca.partsUp_len
            have npf : pt ≠ pf := fun e => by rw [e, s4 _ _ f1] at npt; cases npt
            refine iteT ⟨_, rfl, .inl ⟨rfl, _, SqL.of (s5 _ _ f1)⟩, _, rfl, pf, _, _, rfl, rfl, s5 _ _ f1, small4 (n := n) (by rw [List.length_map]; omega) n4, ?_⟩
            refine ⟨_, _, fs ++ [pt], rfl, fun c o e ne2 => ?_, ?_, ?_⟩
            · rw [upd_ne ne2]
              exact s5 _ _ (s3 _ _ e ne2)
            · rw [upd_same, ref_snoc]
            · rw [Ca.partsUp_yes hh]
              have dif : ∀ c xs, DialAt (upd H3 pt (.tup ((Ca.part n as i).map iv))) c xs → c ≠ pf := fun c xs g => ne_of g (s5 _ _ f1) (fun z => nomatch z)
              refine AllAt.snoc (fa5.mono fun c _ xs g => ?_) ?_
              · show upd _ pf _ c = _
                rw [upd_ne (dif c xs g)]
                exact g
              · show upd _ pf _ pt = _
                rw [upd_ne npf]
                exact upd_same
          · have nm : Ca.part n as i ∈ Ca.partsUp n as i := (Ca.partsUp_mem il).mpr hh
            rw [decide_eq_true nm]
            refine iteF ⟨_, _, fs, rfl, fun c o e ne2 => s5 _ _ (s3 _ _ e ne2), s5 _ _ f1, ?_⟩
            rw [Ca.partsUp_no hh]
            exact fa5
      · rintro σ H2 ⟨x, y, fs, rfl, s3, f1, fa⟩
        refine ⟨_, rfl, q _ pf (fun c o e => s3 _ _ (s1 _ _ e) (ne_of_none e nf0)) ⟨fs, f1, ?_⟩⟩
        have en : (n : Int).toNat = n := by omega
        rw [en, Ca.partsUp_all] at fa
        exact fa
/-! ### above_in -/
abbrev nAbove : List Str := ["web", "place", "here", "k"]
abbrev sAbove : Stmt := topS 19
theorem scAbove : FnScope nAbove ["web", "place"] (defScope sAbove) := ⟨rfl, rfl, rfl, by decide +kernel, rfl, by decide +kernel, by decide +kernel⟩
def spAbove : Sp := fun vs H Q _ => ∃ (a : Addr) (n p : Nat) (as : Ca.Arrs), vs = [.ref a, iv p] ∧ WebAt H a n as ∧ Wb n as ∧ p < n ∧ ∀ H' q, Same H H' → ListAt H' q (Ca.above n as p) → Q (.ref q) H'
theorem ok_above_in {f : Addr} {fd : FuncData} (F : Fun K "above_in" "above_in" sAbove f fd) (B : Bt mg) (dL : Df P w K mg base 1 "led_from" ["web", "place"] spLed) : FnOk P w K mg base CX0 2 f fd ["web", "place"] spAbove := by
  refine F.ok scAbove (fun vs H Q E h => ?_) (fun cdv A outer s H vs Q E hr h => ?_)
  · obtain ⟨_, _, _, _, rfl, _⟩ := h
    rfl
  · obtain ⟨a, n, p, as, rfl, hw, W, hp, q⟩ := h
    obtain ⟨t, hwa, har⟩ := id hw
    have n4 := W.n4
    refine ⟨_, pss_cons (ps_set (i := 2) scAbove.nd rfl (.inr rfl) (pe_df dL hr (pa_cons (pv 0) (pa_cons (pv 1) pa_nil))))
      (pss_one (ps_ret (pe_lc (own := [("k", 3)]) (g := gName 3) (by rfl) scAbove.nd (pi_range1 (by rfl) B.range (pa_cons (pe_ix ix_tup (pv 0) pe_int (fun _ _ => rfl)) pa_nil)) (blkOk_by (N := nAbove) (sc := defScope sAbove) (by decide +kernel))
          (fun _ _ _ _ _ => pg_name (i := 3) scAbove.nd rfl (.inl rfl))
          (fun _ _ _ _ _ => pts_one (PW.pt (pw_and (pt_cmpR (r := rIn K false) op_in_seq (pv 1) (pe_df dL hr (pa_cons (pv 0) (pa_cons (pv 3) pa_nil))) (by rfl)) (pw_and1 (pt_cmpR (r := rIn K true) op_notIn_seq (pv 3) (pv 2) (by rfl))))))
          (fun _ _ _ _ _ => pv 3)))), ?_⟩
    refine ⟨_, rfl, _, rfl, a, n, p, as, rfl, hw, W, hp, fun H1 ph s1 _ lh => ?_⟩
    refine ⟨_, rfl, a, _, _, iv n, rfl, rfl, SqT.of (s1 _ _ hwa), atI_nat (j := 0) rfl, (n : Int), rfl, (bnd n4).1, (bnd n4).2, fun D hD => ?_⟩
    refine lc_range (lo := 0) (n := (n : Int).toNat) (fun i H2 => Same H1 H2 ∧ H2 D = some (.lst ((Ca.aboveUp as p i).map iv))) ⟨same_new hD, upd_same⟩ ?_ ?_
    · rintro i H2 hi ⟨s2, e2⟩
      have il : i < n := by omega
      have i0 : (V.int (0 + (i : Int))) = iv i := by rw [Int.zero_add]; rfl
      rw [i0]
      refine ⟨rfl, ?_⟩
      refine ⟨_, rfl, _, rfl, _, rfl, a, n, i, as, rfl, (hw.same s1).same s2, W, il, fun H3 pk s3 _ lk => ?_⟩
      have e3 := s3 _ _ e2
      have s13 := s2.trans s3
      refine ⟨pk, _, rfl, .inl (SqL.of lk), rfl, flat_iv _, _, rfl, ?_⟩
      show (if inV (iv p) ((Ca.led n as i).map iv) = true then _ else _)
      rw [inV_iv]
      by_cases h1 : p ∈ Ca.led n as i
      · rw [decide_eq_true h1]
        refine iteT ⟨_, rfl, _, rfl, ph, _, rfl, .inl (SqL.of (s13 _ _ lh)), rfl, flat_iv _, _, rfl, ?_⟩
        show (if (!inV (iv i) ((Ca.led n as p).map iv)) = true then _ else _)
        rw [inV_iv]
        have r1 := (Ca.mem_led.mp h1).2
        by_cases h2 : i ∈ Ca.led n as p
        · rw [decide_eq_true h2]
          have r2 := (Ca.mem_led.mp h2).2
          refine iteF ⟨s13, ?_⟩
          rw [Ca.aboveUp_no (fun z => z.2 r2)]
          exact e3
        · rw [decide_eq_false h2]
          have r2 : ¬ Ca.Rch as p i := fun z => h2 (Ca.mem_led.mpr ⟨il, z⟩)
          refine iteT ⟨_, rfl, _, e3, ?_, fun c o e => ?_, ?_⟩
          · refine small4 (n := n) ?_ n4
            rw [List.length_map]
            exact Nat.le_trans (Ca.aboveUp_len _ _ _) (by omega)
          · rw [upd_ne (ne_of_none e hD)]
            exact s13 _ _ e
          · rw [upd_same, Ca.aboveUp_yes r1 r2, iv_snoc]
      · rw [decide_eq_false h1]
        have r1 : ¬ Ca.Rch as i p := fun z => h1 (Ca.mem_led.mpr ⟨hp, z⟩)
        refine iteF (iteF ⟨s13, ?_⟩)
        rw [Ca.aboveUp_no (fun z => r1 z.1)]
        exact e3
    · rintro H2 ⟨s2, e2⟩
      have en : (n : Int).toNat = n := by omega
      rw [en, Ca.aboveUp_all] at e2
      exact q _ D (s1.trans s2) e2
end
end CaW

set_option Elab.async false
set_option linter.all false
set_option maxRecDepth 100000
/-! Flows, marks, can_come. -/
namespace Ca
theorem gcdf_snoc (a : Nat → Nat) (k x : Nat) (js : List Nat) : gcdf a k (js ++ [x]) = Nat.gcd (gcdf a k js) (a x) := by
  unfold gcdf
  rw [List.foldl_append]
  rfl
end Ca
namespace CaW
open PySem L2 CaR
/-- a mark as a row -/
def pr (m : Nat × Nat) : List Nat := [m.1, m.2]
theorem pr_inj {a b : Nat × Nat} (h : pr a = pr b) : a = b := by
  obtain ⟨a1, a2⟩ := a
  obtain ⟨b1, b2⟩ := b
  unfold pr at h
  simp at h
  exact Prod.ext h.1 h.2
theorem map_pr_inj : ∀ {l m : List (Nat × Nat)}, l.map pr = m.map pr → l = m
  | [], [], _ => rfl
  | [], _ :: _, h => by simp at h
  | _ :: _, [], h => by simp at h
  | a :: l, b :: m, h => by
    rw [List.map_cons, List.map_cons] at h
    obtain ⟨h1, h2⟩ := List.cons.inj h
    rw [pr_inj h1, map_pr_inj h2]
section
variable {P : Program} {w : World} {K : PySem.W.Frag} {mg : Str → Option Value} {base : Heap}
/-! ### flow_in -/
abbrev sFlow : Stmt := topS 21
theorem scFlow : FnScope ["web", "hours", "dial", "place", "found", "k"] ["web", "hours", "dial", "place"] (defScope sFlow) := ⟨rfl, rfl, rfl, by decide +kernel, rfl, by decide +kernel, by decide +kernel⟩
def spFlow : Sp := fun vs H Q _ => ∃ (a b : Addr) (n k p : Nat) (as : Ca.Arrs) (d : List Nat), vs = [.ref a, iv k, .ref b, iv p] ∧ Inp H a b n k as d ∧ p < n ∧ ∀ H', Same H H' → Q (iv (Ca.flow n as k d p)) H'
theorem ok_flow_in {f : Addr} {fd : FuncData} (F : Fun K "flow_in" "flow_in" sFlow f fd) (dA : Df P w K mg base 2 "above_in" ["web", "place"] spAbove) (dG : Df P w K mg base 1 "gcd" ["one", "other"] spGcd) : FnOk P w K mg base CX0 3 f fd ["web", "hours", "dial", "place"] spFlow := by
  refine F.ok scFlow (fun vs H Q E h => ?_) (fun cdv A outer s H vs Q E hr h => ?_)
  · obtain ⟨_, _, _, _, _, _, _, rfl, _⟩ := h
    rfl
  · obtain ⟨a, b, n, k, p, as, d, rfl, I, hp, q⟩ := h
    have hd : H b = some (.tup (d.map iv)) := I.at_
    refine ⟨_, pss_cons (ps_set (i := 4) scFlow.nd rfl (.inl rfl) (pv 1))
      (pss_cons (ps_for PassesOwn.never (by rfl) (pi_list (pe_df dA hr (pa_cons (pv 0) (pa_cons (pv 3) pa_nil)))) (pg_name (i := 5) scFlow.nd rfl (.inl rfl))
        (pss_one (ps_set (i := 4) scFlow.nd rfl (.inl rfl) (pe_df dG (hr.mono (by decide)) (pa_cons (pv 4) (pa_cons (pe_ix ix_tup (pv 2) (pv 5) (fun _ _ => rfl)) pa_nil))))))
      (pss_one (ps_ret (pv 4)))), ?_⟩
    refine ⟨_, rfl, _, rfl, _, rfl, a, n, p, as, rfl, I.web, I.wb, hp, fun H1 l s1 hl => ⟨l, rfl, ⟨_, SqL.of hl⟩, ?_⟩⟩
    refine for_list (K := K) (a := l) (xs := (Ca.above n as p).map iv) (fun i σ H2 => ∃ x, σ = [some (.ref a), some (iv k), some (.ref b), some (iv p), some (iv (Ca.gcdf (Ca.val d) k ((Ca.above n as p).take i))), x] ∧ H2 = H1) ⟨none, rfl, rfl⟩ (fun i σ H2 _ ⟨_, _, e⟩ => by rw [e]; exact SqL.of hl) ?_ ?_
    · rintro i v σ H2 hv ⟨x, rfl, rfl⟩
      obtain ⟨j, hj, rfl⟩ := get_map hv
      have jn : j < n := (Ca.mem_above.mp (List.mem_of_getElem? hj)).1
      refine ⟨_, rfl, _, rfl, _, rfl, b, _, _, iv (Ca.val d j), rfl, rfl, SqT.of (s1 _ _ hd), dial_at (by rw [I.dial.len]; exact jn), Ca.gcdf (Ca.val d) k ((Ca.above n as p).take i), Ca.val d j, rfl, ?_⟩
      refine ⟨some (iv j), ?_, rfl⟩
      rw [take_snoc hj, Ca.gcdf_snoc]
      rfl
    · rintro σ H2 ⟨x, rfl, rfl⟩
      rw [List.length_map, List.take_length]
      exact ⟨_, rfl, q _ s1⟩
/-! ### mark_of -/
abbrev sMark : Stmt := topS 22
theorem scMark : FnScope ["web", "hours", "dial", "part", "flow", "found", "k"] ["web", "hours", "dial", "part"] (defScope sMark) := ⟨rfl, rfl, rfl, by decide +kernel, rfl, by decide +kernel, by decide +kernel⟩
def spMark : Sp := fun vs H Q _ => ∃ (a b c : Addr) (n k p : Nat) (as : Ca.Arrs) (d : List Nat), vs = [.ref a, iv k, .ref b, .ref c] ∧ Inp H a b n k as d ∧ p < n ∧ DialAt H c (Ca.part n as p) ∧ ∀ H' r, Same H H' → H r = none → DialAt H' r (pr (Ca.markP n as k d (Ca.part n as p))) → Q (.ref r) H'
theorem part_head {n p : Nat} {as : Ca.Arrs} (hp : p < n) : (Ca.part n as p)[0]? = some (Ca.hd n as p) := by
  have m := Ca.hd_mem (as := as) hp
  unfold Ca.hd at *
  cases e : Ca.part n as p with
  | nil => rw [e] at m; cases m
  | cons x r => rfl
theorem ok_mark_of {f : Addr} {fd : FuncData} (F : Fun K "mark_of" "mark_of" sMark f fd) (B : Bt mg) (dF : Df P w K mg base 3 "flow_in" ["web", "hours", "dial", "place"] spFlow) (dG : Df P w K mg base 1 "gcd" ["one", "other"] spGcd) :
    FnOk P w K mg base CX0 4 f fd ["web", "hours", "dial", "part"] spMark := by
  refine F.ok scMark (fun vs H Q E h => ?_) (fun cdv A outer s H vs Q E hr h => ?_)
  · obtain ⟨_, _, _, _, _, _, _, _, rfl, _⟩ := h
    rfl
  · obtain ⟨a, b, c, n, k, p, as, d, rfl, I, hp, hc, q⟩ := h
    have hd : H b = some (.tup (d.map iv)) := I.at_
    have hc' : H c = some (.tup ((Ca.part n as p).map iv)) := hc
    have hk0 : 0 < k := by have := I.k2; omega
    have hh := Ca.hd_lt (as := as) hp
    refine ⟨_, pss_cons (ps_set (i := 4) scMark.nd rfl (.inl rfl) (pe_df dF hr (pa_cons (pv 0) (pa_cons (pv 1) (pa_cons (pv 2) (pa_cons (pe_ix ix_tup (pv 3) pe_int (fun _ _ => rfl)) pa_nil))))))
      (pss_cons (ps_if (pt_cmpR op_eq (pe_callB call_len_seq (by rfl) B.len PySem.boot_len (pa_cons (pv 3) pa_nil)) pe_int (nomark _))
        (pss_one (ps_ret (pe_tup (pa_cons (pv 4) (pa_cons (pe_op op_mod (pe_ix ix_tup (pv 2) (pe_ix ix_tup (pv 3) pe_int (fun _ _ => rfl)) (fun _ _ => rfl)) (pv 4)) pa_nil))))) pss_nil)
      (pss_cons (ps_set (i := 5) scMark.nd rfl (.inl rfl) (pv 4))
      (pss_cons (ps_for PassesOwn.never (by rfl) (pi_tup (pv 3)) (pg_name (i := 6) scMark.nd rfl (.inl rfl))
        (pss_one (ps_set (i := 5) scMark.nd rfl (.inl rfl) (pe_df dG (hr.mono (by decide)) (pa_cons (pv 5) (pa_cons (pe_ix ix_tup (pv 2) (pv 6) (fun _ _ => rfl)) pa_nil))))))
      (pss_one (ps_ret (pe_tup (pa_cons (pv 4) (pa_cons (pv 5) pa_nil)))))))), ?_⟩
    refine ⟨_, rfl, _, rfl, _, rfl, _, rfl, c, _, _, iv (Ca.hd n as p), rfl, rfl, SqT.of hc', atI_nat (j := 0) (by rw [List.getElem?_map, part_head hp]; rfl), a, b, n, k, Ca.hd n as p, as, d, rfl, I, hh, fun H1 s1 => ?_⟩
    have c1 := s1 _ _ hc'
    have d1 := s1 _ _ hd
    have g0 : 0 < Ca.flow n as k d (Ca.hd n as p) := Ca.flow_pos hk0
    -- if len(part) == 1
    refine ⟨_, rfl, _, _, rfl, .inr (SqT.of c1), rfl, _, rfl, ?_⟩
    by_cases one : (Ca.part n as p).length = 1
    · have e1 : decide (V.int (((Ca.part n as p).map iv).length : Nat) = V.int 1) = true := decide_eq_true (by rw [List.length_map, one]; rfl)
      rw [e1]
      refine iteT ⟨_, rfl, _, rfl, _, rfl, c, _, _, iv (Ca.hd n as p), rfl, rfl, SqT.of c1, atI_nat (j := 0) (by rw [List.getElem?_map, part_head hp]; rfl), b, _, _, iv (Ca.val d (Ca.hd n as p)), rfl, rfl, SqT.of d1, dial_at (by rw [I.dial.len]; exact hh), _, rfl, _, _, rfl, rfl, by omega, (by show 2 ≤ sizeLine; decide), fun r nr => ?_⟩
      refine q _ r (s1.trans (same_new nr)) (s1.free nr) ?_
      show upd H1 r _ r = _
      rw [upd_same]
      have e2 : Ca.markP n as k d (Ca.part n as p) = (Ca.flow n as k d (Ca.hd n as p), Ca.val d (Ca.hd n as p) % Ca.flow n as k d (Ca.hd n as p)) := by
        unfold Ca.markP
        rw [if_pos one]
        rfl
      rw [e2]
      show some (HO.tup [iv (Ca.flow n as k d (Ca.hd n as p)), V.int ((Ca.val d (Ca.hd n as p) : Int) % (Ca.flow n as k d (Ca.hd n as p) : Int))]) = _
      rw [emod_nat]
      rfl
    · have e1 : decide (V.int (((Ca.part n as p).map iv).length : Nat) = V.int 1) = false := decide_eq_false (fun z => one (by
        have := V.int.inj z
        rw [List.length_map] at this
        omega))
      rw [e1]
      refine iteF ⟨_, rfl, _, rfl, c, rfl, ⟨_, SqT.of c1⟩, ?_⟩
      refine for_tup (K := K) (a := c) (xs := (Ca.part n as p).map iv) (fun i σ H2 => ∃ x, σ = [some (.ref a), some (iv k), some (.ref b), some (.ref c), some (iv (Ca.flow n as k d (Ca.hd n as p))), some (iv (Ca.gcdf (Ca.val d) (Ca.flow n as k d (Ca.hd n as p)) ((Ca.part n as p).take i))), x] ∧ H2 = H1)
        ⟨none, rfl, rfl⟩ (fun i σ H2 _ ⟨_, _, e⟩ => by rw [e]; exact SqT.of c1) ?_ ?_
      · rintro i v σ H2 hv ⟨x, rfl, rfl⟩
        obtain ⟨j, hj, rfl⟩ := get_map hv
        have jn : j < n := (Ca.mem_part.mp (List.mem_of_getElem? hj)).1
        refine ⟨_, rfl, _, rfl, _, rfl, b, _, _, iv (Ca.val d j), rfl, rfl, SqT.of d1, dial_at (by rw [I.dial.len]; exact jn), Ca.gcdf (Ca.val d) (Ca.flow n as k d (Ca.hd n as p)) ((Ca.part n as p).take i), Ca.val d j, rfl, ?_⟩
        refine ⟨some (iv j), ?_, rfl⟩
        rw [take_snoc hj, Ca.gcdf_snoc]
        rfl
      · rintro σ H2 ⟨x, rfl, rfl⟩
        rw [List.length_map, List.take_length]
        refine ⟨_, rfl, _, rfl, (by show 2 ≤ sizeLine; decide), fun r nr => ?_⟩
        refine q _ r (s1.trans (same_new nr)) (s1.free nr) ?_
        show upd H2 r _ r = _
        rw [upd_same]
        have e2 : Ca.markP n as k d (Ca.part n as p) = (Ca.flow n as k d (Ca.hd n as p), Ca.gcdf (Ca.val d) (Ca.flow n as k d (Ca.hd n as p)) (Ca.part n as p)) := by
          unfold Ca.markP
          rw [if_neg one]
          rfl
        rw [e2]
        rfl
/-! ### marks_in -/
abbrev nMarksIn : List Str := ["web", "hours", "dial", "part"]
abbrev sMarksIn : Stmt := topS 23
theorem scMarksIn : FnScope nMarksIn ["web", "hours", "dial"] (defScope sMarksIn) := ⟨rfl, rfl, rfl, by decide +kernel, rfl, by decide +kernel, by decide +kernel⟩
noncomputable def mks (n : Nat) (as : Ca.Arrs) (k : Nat) (d : List Nat) : List (List Nat) := (Ca.marksL n as k d).map pr
def spMarksIn : Sp := fun vs H Q _ => ∃ (a b : Addr) (n k : Nat) (as : Ca.Arrs) (d : List Nat), vs = [.ref a, iv k, .ref b] ∧ Inp H a b n k as d ∧ ∀ H' r, Same H H' → TsAt H' r (mks n as k d) → Q (.ref r) H'
theorem mks_at {n k i : Nat} {as : Ca.Arrs} {d P : List Nat} (h : (Ca.partsL n as)[i]? = some P) : (mks n as k d)[i]? = some (pr (Ca.markP n as k d P)) := by
  unfold mks Ca.marksL
  rw [List.getElem?_map, List.getElem?_map, h]
  rfl
theorem parts_len {n : Nat} {as : Ca.Arrs} : (Ca.partsL n as).length ≤ n := by
  have := Ca.partsUp_len (n := n) (as := as) (i := n)
  rw [Ca.partsUp_all] at this
  exact this
theorem mks_len {n k : Nat} {as : Ca.Arrs} {d : List Nat} : (mks n as k d).length = (Ca.partsL n as).length := by
  unfold mks Ca.marksL
  rw [List.length_map, List.length_map]
theorem ok_marks_in {f : Addr} {fd : FuncData} (F : Fun K "marks_in" "marks_in" sMarksIn f fd) (dP : Df P w K mg base 2 "parts_in" ["web"] spParts) (dM : Df P w K mg base 4 "mark_of" ["web", "hours", "dial", "part"] spMark) :
    FnOk P w K mg base CX0 5 f fd ["web", "hours", "dial"] spMarksIn := by
  refine F.ok scMarksIn (fun vs H Q E h => ?_) (fun cdv A outer s H vs Q E hr h => ?_)
  · obtain ⟨_, _, _, _, _, _, rfl, _⟩ := h
    rfl
  · obtain ⟨a, b, n, k, as, d, rfl, I, q⟩ := h
    have n4 := I.wb.n4
    refine ⟨_, pss_one (ps_ret (pe_lc (own := [("part", 3)]) (g := gName 3) (tt := tYes) (by rfl) scMarksIn.nd (pi_list (pe_df dP (hr.mono (by decide)) (pa_cons (pv 0) pa_nil))) (blkOk_by (N := nMarksIn) (sc := defScope sMarksIn) (by decide +kernel))
      (fun _ _ _ _ _ => pg_name (i := 3) scMarksIn.nd rfl (.inl rfl)) (fun _ _ _ _ _ => pts_nil) (fun _ _ _ _ _ => pe_df dM hr (pa_cons (pv 0) (pa_cons (pv 1) (pa_cons (pv 2) (pa_cons (pv 3) pa_nil))))))), ?_⟩
    refine ⟨_, rfl, a, n, as, rfl, I.web, I.wb, fun H1 l s1 hl => ?_⟩
    obtain ⟨ls, l1, al⟩ := hl
    refine ⟨l, rfl, ⟨_, SqL.of l1⟩, fun D hD => ?_⟩
    refine lc_list (K := K) (a := l) (xs := ls.map V.ref) (fun i H2 => Same H1 H2 ∧ ∃ rs : List Addr, H2 D = some (.lst (rs.map V.ref)) ∧ AllAt DialAt H2 rs ((mks n as k d).take i)) ⟨same_new hD, [], upd_same, AllAt.nil⟩ (fun i H2 _ z => SqL.of (z.1 _ _ l1)) ?_ ?_
    · rintro i v H2 hv ⟨s2, rs, e2, rl⟩
      obtain ⟨c, hc, rfl⟩ := get_map hv
      obtain ⟨Pt, hPt, gc⟩ := al.of hc
      obtain ⟨p, hp, rfl⟩ := Ca.mem_partsL.mp (List.mem_of_getElem? hPt)
      have il : i < (Ca.partsL n as).length := (List.getElem?_eq_some_iff.mp hPt).1
      refine ⟨rfl, ?_⟩
      refine ⟨_, rfl, _, rfl, _, rfl, _, rfl, a, b, c, n, k, p, as, d, rfl, (I.same s1).same s2, hp, s2 _ _ gc, fun H3 r s3 nr hr' => ?_⟩
      have e3 := s3 _ _ e2
      have rD : r ≠ D := fun e => by rw [e, e2] at nr; cases nr
      refine ⟨_, e3, ?_, fun c o e => ?_, rs ++ [r], ?_, ?_⟩
      · refine small4 (n := n) ?_ n4
        rw [List.length_map, rl.1, List.length_take, mks_len]
        exact Nat.le_trans (Nat.min_le_right _ _) parts_len
      · rw [upd_ne (ne_of_none e hD)]
        exact s3 _ _ (s2 _ _ e)
      · rw [upd_same, ref_snoc]
      · rw [take_snoc (mks_at hPt)]
        refine AllAt.snoc (rl.mono fun c _ xs g => ?_) ?_
        · show upd H3 D _ c = _
          rw [upd_ne (ne_of g e2 (fun z => nomatch z))]
          exact s3 _ _ g
        · show upd H3 D _ r = _
          rw [upd_ne rD]
          exact hr'
    · rintro H2 ⟨s2, rs, e2, rl⟩
      have et : (mks n as k d).take (ls.map V.ref).length = mks n as k d := List.take_of_length_le (by rw [List.length_map, al.1, mks_len]; exact Nat.le_refl _)
      rw [et] at rl
      exact q _ D (s1.trans s2) ⟨rs, e2, rl⟩
/-! ### marks -/
abbrev sMarks : Stmt := topS 24
theorem scMarks : FnScope ["web", "hours", "dial"] ["web", "hours", "dial"] (defScope sMarks) := ⟨rfl, rfl, rfl, by decide +kernel, rfl, by decide +kernel, by decide +kernel⟩
/-- a tuple of tuples -/
def TtAt (H : Hp) (l : Addr) (xss : List (List Nat)) : Prop := ∃ ls : List Addr, H l = some (.tup (ls.map V.ref)) ∧ AllAt DialAt H ls xss
theorem TtAt.same {H H' : Hp} {l : Addr} {xss : List (List Nat)} (h : TtAt H l xss) (s : Same H H') : TtAt H' l xss := by
  obtain ⟨ls, h1, h2⟩ := h
  exact ⟨ls, s _ _ h1, h2.mono fun p _ xs g => s _ _ g⟩
theorem TsAt.tup {H : Hp} {l q : Addr} {xss : List (List Nat)} {ls : List Addr} (e : H l = some (.lst (ls.map V.ref))) (al : AllAt DialAt H ls xss) (nq : H q = none) : TtAt (upd H q (.tup (ls.map V.ref))) q xss :=
  ⟨ls, upd_same, al.mono fun c _ xs g => same_new nq _ _ g⟩
def spMarks : Sp := fun vs H Q _ => ∃ (a b : Addr) (n k : Nat) (as : Ca.Arrs) (d : List Nat), vs = [.ref a, iv k, .ref b] ∧ Inp H a b n k as d ∧ ∀ H' r, Same H H' → TtAt H' r (mks n as k d) → Q (.ref r) H'
theorem ok_marks {f : Addr} {fd : FuncData} (F : Fun K "marks" "marks" sMarks f fd) (B : Bt mg) (dN : Df P w K mg base 4 "need_all" ["web", "hours", "dial"] spNAll) (dM : Df P w K mg base 5 "marks_in" ["web", "hours", "dial"] spMarksIn) :
    FnOk P w K mg base CX0 6 f fd ["web", "hours", "dial"] spMarks := by
  refine F.ok scMarks (fun vs H Q E h => ?_) (fun cdv A outer s H vs Q E hr h => ?_)
  · obtain ⟨_, _, _, _, _, _, rfl, _⟩ := h
    rfl
  · obtain ⟨a, b, n, k, as, d, rfl, I, q⟩ := h
    refine ⟨_, pss_cons (ps_expr (pe_df dN (hr.mono (by decide)) (pa_cons (pv 0) (pa_cons (pv 1) (pa_cons (pv 2) pa_nil)))))
      (pss_one (ps_ret (pe_tupleOf (by rfl) B.tuple (pe_df dM hr (pa_cons (pv 0) (pa_cons (pv 1) (pa_cons (pv 2) pa_nil))))))), ?_⟩
    refine ⟨_, rfl, _, rfl, _, rfl, a, b, n, k, as, d, rfl, I, fun H1 s1 => ?_⟩
    refine ⟨_, rfl, _, rfl, _, rfl, a, b, n, k, as, d, rfl, I.same s1, fun H2 l s2 hl => ?_⟩
    obtain ⟨ls, l1, al⟩ := hl
    refine .inl ⟨l, _, rfl, SqL.of l1, fun t nt => ?_⟩
    exact q _ t ((s1.trans s2).trans (same_new nt)) (TsAt.tup l1 al nt)
/-! ### can_come -/
abbrev sCan : Stmt := topS 25
theorem scCan : FnScope ["web", "hours", "one", "other"] ["web", "hours", "one", "other"] (defScope sCan) := ⟨rfl, rfl, rfl, by decide +kernel, rfl, by decide +kernel, by decide +kernel⟩
def spCan : Sp := fun vs H Q _ => ∃ (a b c : Addr) (n k : Nat) (as : Ca.Arrs) (d e : List Nat), vs = [.ref a, iv k, .ref b, .ref c] ∧ Inp H a b n k as d ∧ DialAt H c e ∧ Ca.IsDial n k e ∧
  ∀ H', Same H H' → Q (.bl (decide (Ca.marksL n as k d = Ca.marksL n as k e))) H'
theorem ok_can_come {f : Addr} {fd : FuncData} (F : Fun K "can_come" "can_come" sCan f fd) (dN : Df P w K mg base 4 "need_all" ["web", "hours", "dial"] spNAll) (dD : Df P w K mg base 2 "need_dial" ["web", "hours", "dial"] spNDial) (dM : Df P w K mg base 5 "marks_in" ["web", "hours", "dial"] spMarksIn) :
    FnOk P w K mg base CX0 6 f fd ["web", "hours", "one", "other"] spCan := by
  refine F.ok scCan (fun vs H Q E h => ?_) (fun cdv A outer s H vs Q E hr h => ?_)
  · obtain ⟨_, _, _, _, _, _, _, _, rfl, _⟩ := h
    rfl
  · obtain ⟨a, b, c, n, k, as, d, e, rfl, I, hc, he, q⟩ := h
    refine ⟨_, pss_cons (ps_expr (pe_df dN (hr.mono (by decide)) (pa_cons (pv 0) (pa_cons (pv 1) (pa_cons (pv 2) pa_nil)))))
      (pss_cons (ps_expr (pe_df dD (hr.mono (by decide)) (pa_cons (pv 0) (pa_cons (pv 1) (pa_cons (pv 3) pa_nil)))))
      (pss_one (ps_ret (pe_cmpR (op_eqD hr.units) (pe_df dM hr (pa_cons (pv 0) (pa_cons (pv 1) (pa_cons (pv 2) pa_nil)))) (pe_df dM hr (pa_cons (pv 0) (pa_cons (pv 1) (pa_cons (pv 3) pa_nil)))) (nomark _))))), ?_⟩
    refine ⟨_, rfl, _, rfl, _, rfl, a, b, n, k, as, d, rfl, I, fun H1 s1 => ?_⟩
    refine ⟨_, rfl, _, rfl, _, rfl, a, c, n, k, as, e, rfl, I.web.same s1, hc.same s1, he, fun H2 s2 => ?_⟩
    have s12 := s1.trans s2
    refine ⟨_, rfl, _, rfl, _, rfl, a, b, n, k, as, d, rfl, I.same s12, fun H3 l s3 hl => ?_⟩
    have s13 := s12.trans s3
    refine ⟨_, rfl, _, rfl, _, rfl, a, c, n, k, as, e, rfl, ⟨I.wb, I.k2, I.k24, I.web.same s13, hc.same s13, he⟩, fun H4 m s4 hm => ?_⟩
    refine ⟨_, _, (hl.same s4).dp, hm.dp, shaped_dT _, shaped_dT _, ?_⟩
    have ev : PyData.eqv (.list (dT (mks n as k d))) (.list (dT (mks n as k e))) = decide (Ca.marksL n as k d = Ca.marksL n as k e) := by
      show PyData.eqvAll _ _ = _
      rw [eqv_dT]
      exact decide_eq_decide.mpr ⟨fun z => map_pr_inj z, fun z => by unfold mks; rw [z]⟩
    rw [ev]
    exact q _ (s13.trans s4)
end
end CaW

set_option Elab.async false
set_option linter.all false
set_option maxRecDepth 100000
/-! Counts: prime_to, ways_of, count_with, come_count. -/
namespace Ca
theorem tuples_len (k : Nat) : ∀ m, (tuples k m).length = k ^ m
  | 0 => rfl
  | m + 1 => by
    unfold tuples
    rw [List.length_flatMap]
    have : ∀ l : List Nat, (l.map fun x => ((tuples k m).map (x :: ·)).length).sum = l.length * k ^ m := by
      intro l
      induction l with
      | nil => simp
      | cons x l ih => rw [List.map_cons, List.sum_cons, ih, List.length_map, tuples_len k m, List.length_cons, Nat.add_mul]; omega
    rw [this, List.length_range, Nat.pow_succ, Nat.mul_comm]
theorem way_le (k : Nat) (M : Nat × Nat) (m : Nat) : wayC k M m ≤ k ^ m := by
  unfold wayC
  rw [← tuples_len k m]
  exact List.length_filter_le _ _
theorem way_small {k m : Nat} {M : Nat × Nat} (hk : k ≤ 24) (hm : m ≤ 4) : wayC k M m ≤ 331776 := by
  refine Nat.le_trans (way_le k M m) ?_
  refine Nat.le_trans (Nat.pow_le_pow_left hk m) ?_
  exact Nat.le_trans (Nat.pow_le_pow_right (by decide) hm) (by decide)
end Ca
namespace CaW
open PySem L2 CaR
theorem nat_mul (a b : Nat) : ((a : Int) * (b : Int)) = ((a * b : Nat) : Int) := (Int.natCast_mul a b).symm
theorem nat_div (a b : Nat) : ((a : Int) / (b : Int)) = ((a / b : Nat) : Int) := (Int.natCast_ediv a b).symm
theorem small64 {b : Nat} (h : b ≤ 10000000) : -(2 ^ 64 : Int) < (b : Int) ∧ (b : Int) < 2 ^ 64 := by omega
section
variable {P : Program} {w : World} {K : PySem.W.Frag} {mg : Str → Option Value} {base : Heap}
/-! ### prime_to -/
abbrev sPrime : Stmt := topS 26
theorem scPrime : FnScope ["number", "many", "found", "k", "left", "prime", "size"] ["number", "many"] (defScope sPrime) := ⟨rfl, rfl, rfl, by decide +kernel, rfl, by decide +kernel, by decide +kernel⟩
def spPrime : Sp := fun vs H Q _ => ∃ N m c : Nat, vs = [iv N, iv m] ∧ 1 ≤ N ∧ N ≤ 24 ∧ m ≤ 4 ∧ Ca.ptN N m = some c ∧ Q (iv c) H
theorem pow_small {p m : Nat} (hp : p ≤ 32) (hm : m ≤ 4) : p ^ m ≤ 1048576 := by
  refine Nat.le_trans (Nat.pow_le_pow_left hp m) ?_
  exact Nat.le_trans (Nat.pow_le_pow_right (by decide) hm) (by decide)
theorem ok_prime_to {f : Addr} {fd : FuncData} (F : Fun K "prime_to" "prime_to" sPrime f fd) (B : Bt mg) : FnOk P w K mg base CX0 1 f fd ["number", "many"] spPrime := by
  refine F.ok scPrime (fun vs H Q E h => ?_) (fun cdv A outer s H vs Q E hr h => ?_)
  · obtain ⟨_, _, _, rfl, _⟩ := h
    rfl
  · obtain ⟨N, m, c, rfl, hN1, hN, hm, hc, q⟩ := h
    refine ⟨_, pss_cons (ps_set (i := 2) scPrime.nd rfl (.inl rfl) pe_int)
      (pss_cons (ps_for PassesOwn.never (by rfl) (pi_range1 (by rfl) B.range (pa_cons (pv 1) pa_nil)) (pg_name (i := 3) scPrime.nd rfl (.inl rfl))
        (pss_one (ps_aug (i := 2) scPrime.nd rfl (.inl rfl) (pv 0) iop_mul)))
      (pss_cons (ps_par (i := 4) (j := 5) (by rfl) scPrime.nd rfl rfl (by decide) rfl rfl (pa_cons (pv 0) (pa_cons pe_int pa_nil)) (by rfl))
      (pss_cons (ps_while PassesOwn.never (pt_cmpR op_gt (pv 4) pe_int (nomark _))
        (pss_cons (ps_if (pt_cmpR op_eq (pe_op op_mod (pv 4) (pv 5)) pe_int (nomark _))
          (pss_cons (ps_while PassesOwn.never (pt_cmpR op_eq (pe_op op_mod (pv 4) (pv 5)) pe_int (nomark _)) (pss_one (ps_aug (i := 4) scPrime.nd rfl (.inl rfl) (pv 5) iop_fdiv)))
          (pss_cons (ps_set (i := 6) scPrime.nd rfl (.inl rfl) pe_int)
          (pss_cons (ps_for PassesOwn.never (by rfl) (pi_range1 (by rfl) B.range (pa_cons (pv 1) pa_nil)) (pg_name (i := 3) scPrime.nd rfl (.inl rfl))
            (pss_one (ps_aug (i := 6) scPrime.nd rfl (.inl rfl) (pv 5) iop_mul)))
          (pss_one (ps_set (i := 2) scPrime.nd rfl (.inl rfl) (pe_op op_mul (pe_op op_fdiv (pv 2) (pv 6)) (pe_op op_sub (pv 6) pe_int))))))) pss_nil)
        (pss_one (ps_aug (i := 5) scPrime.nd rfl (.inl rfl) pe_int ip_add))))
      (pss_one (ps_ret (pv 2)))))), ?_⟩
    -- found = number ** many
    refine ⟨_, rfl, (m : Int), rfl, by omega, by omega, ?_⟩
    refine for_range (lo := 0) (n := (m : Int).toNat) (fun i σ H1 => H1 = H ∧ ∃ x, σ = [some (iv N), some (iv m), some (iv (N ^ i)), x, none, none, none]) ⟨rfl, none, rfl⟩ ?_ ?_
    · rintro i σ H1 hi ⟨rfl, x, rfl⟩
      refine ⟨_, rfl, _, rfl, _, _, rfl, rfl, .inr (small64 (by omega)), rfl, some (.int (0 + (i : Int))), ?_⟩
      show [some (iv N), some (iv m), some (V.int (((N ^ i : Nat) : Int) * (N : Int))), some (V.int (0 + (i : Int))), none, none, none] = _
      rw [nat_mul, ← Nat.pow_succ]
      rfl
    · rintro σ H1 ⟨rfl, x, rfl⟩
      rw [show (m : Int).toNat = m by omega]
      refine ⟨_, rfl, _, _, rfl, ?_⟩
      -- the primes
      unfold Ca.ptN at hc
      refine ⟨fun f σ H2 => H2 = H1 ∧ ∃ (fo le p : Nat) (x z : Option V), σ = [some (iv N), some (iv m), some (iv fo), x, some (iv le), some (iv p), z] ∧ Ca.ptRun f fo le p m = some c ∧ p + f = 32 ∧ 2 ≤ p, ⟨30, rfl, N ^ m, N, 2, x, none, rfl, hc, rfl, Nat.le_refl _⟩, ?_⟩
      rintro f σ H2 ⟨rfl, fo, le, p, x, z, rfl, run, pf, p2⟩
      refine ⟨_, rfl, _, _, rfl, rfl, _, rfl, ?_⟩
      match f, run with
      | f + 1, run =>
        unfold Ca.ptRun at run
        by_cases hle : 1 < le
        · rw [if_pos hle] at run
          rw [show decide ((1 : Int) < (le : Int)) = true from decide_eq_true (by omega)]
          refine iteT ⟨fun σ' H' => H' = H2 ∧ ∃ (fo le : Nat) (x z : Option V), σ' = [some (iv N), some (iv m), some (iv fo), x, some (iv le), some (iv (p + 1)), z] ∧ Ca.ptRun f fo le (p + 1) m = some c, ?_, ?_⟩
          · rintro σ' H' ⟨rfl, fo, le, x, z, rfl, r⟩
            exact ⟨f, Nat.lt_succ_self f, rfl, fo, le, p + 1, x, z, rfl, r, by omega, by omega⟩
          · refine ⟨_, rfl, _, rfl, _, _, rfl, rfl, by omega, rfl, _, rfl, ?_⟩
            have em : decide (V.int ((le : Int) % (p : Int)) = V.int 0) = decide (le % p = 0) := decide_eq_decide.mpr ⟨fun z => by have := V.int.inj z; rw [emod_nat] at this; omega, fun z => by rw [emod_nat, z]; rfl⟩
            rw [em]
            by_cases hd : le % p = 0
            · rw [if_pos hd] at run
              rw [decide_eq_true hd]
              by_cases hs : Ca.strip 6 le p % p = 0
              · rw [if_pos hs] at run
                cases run
              · rw [if_neg hs] at run
                -- strip
                refine iteT ⟨fun g σ' H' => H' = H2 ∧ ∃ (le' : Nat), σ' = [some (iv N), some (iv m), some (iv fo), x, some (iv le'), some (iv p), z] ∧ Ca.strip g le' p = Ca.strip 6 le p, ⟨6, rfl, le, rfl, rfl⟩, ?_⟩
                rintro g σ' H' ⟨rfl, le', rfl, es⟩
                refine ⟨_, rfl, _, rfl, _, _, rfl, rfl, by omega, rfl, _, rfl, ?_⟩
                have em' : decide (V.int ((le' : Int) % (p : Int)) = V.int 0) = decide (le' % p = 0) := decide_eq_decide.mpr ⟨fun z => by have := V.int.inj z; rw [emod_nat] at this; omega, fun z => by rw [emod_nat, z]; rfl⟩
                rw [em']
                by_cases hd' : le' % p = 0
                · rw [decide_eq_true hd']
                  match g, es with
                  | 0, es =>
                    rw [← es] at hs
                    exact absurd hd' hs
                  | g + 1, es =>
                    unfold Ca.strip at es
                    rw [if_pos hd'] at es
                    refine iteT ⟨fun σ2 H3 => H3 = H' ∧ ∃ le2 : Nat, σ2 = [some (iv N), some (iv m), some (iv fo), x, some (iv le2), some (iv p), z] ∧ Ca.strip g le2 p = Ca.strip 6 le p, fun σ2 H3 ⟨e1, le2, e2, e3⟩ => ⟨g, Nat.lt_succ_self g, e1, le2, e2, e3⟩, ?_⟩
                    refine ⟨_, rfl, _, rfl, _, _, rfl, rfl, ⟨by omega, by omega⟩, rfl, le' / p, ?_, es⟩
                    show [some (iv N), some (iv m), some (iv fo), x, some (V.int ((le' : Int) / (p : Int))), some (iv p), z] = _
                    rw [nat_div]
                    rfl
                · rw [decide_eq_false hd']
                  have ee : le' = Ca.strip 6 le p := by
                    rw [← es]
                    cases g with
                    | zero => rfl
                    | succ g => unfold Ca.strip; rw [if_neg hd']
                  subst ee
                  -- size
                  refine iteF ⟨_, rfl, (m : Int), rfl, by omega, by omega, ?_⟩
                  refine for_range (lo := 0) (n := (m : Int).toNat) (fun i σ H3 => H3 = H' ∧ ∃ y, σ = [some (iv N), some (iv m), some (iv fo), y, some (iv (Ca.strip 6 le p)), some (iv p), some (iv (p ^ i))]) ⟨rfl, x, rfl⟩ ?_ ?_
                  · rintro i σ H3 hi ⟨rfl, y, rfl⟩
                    refine ⟨_, rfl, _, rfl, _, _, rfl, rfl, .inr (small64 (by omega)), rfl, some (.int (0 + (i : Int))), ?_⟩
                    show [some (iv N), some (iv m), some (iv fo), some (V.int (0 + (i : Int))), some (iv (Ca.strip 6 le p)), some (iv p), some (V.int (((p ^ i : Nat) : Int) * (p : Int)))] = _
                    rw [nat_mul, ← Nat.pow_succ]
                    rfl
                  · rintro σ H3 ⟨rfl, y, rfl⟩
                    rw [show (m : Int).toNat = m by omega]
                    have sp := pow_small (p := p) (m := m) (by omega) hm
                    have s0 : 0 < p ^ m := Nat.pow_pos (by omega)
                    refine ⟨_, rfl, _, rfl, _, _, rfl, rfl, ⟨by omega, by omega⟩, _, rfl, _, _, rfl, rfl, _, _, rfl, rfl, .inr ⟨by omega, by omega⟩, ?_⟩
                    refine ⟨_, rfl, _, _, rfl, rfl, rfl, fo / p ^ m * (p ^ m - 1), Ca.strip 6 le p, y, some (iv (p ^ m)), ?_, run⟩
                    show [some (iv N), some (iv m), some (V.int (((fo : Int) / ((p ^ m : Nat) : Int)) * (((p ^ m : Nat) : Int) - 1))), y, some (iv (Ca.strip 6 le p)), some (V.int ((p : Int) + 1)), some (iv (p ^ m))] = _
                    rw [nat_div, show ((p ^ m : Nat) : Int) - 1 = ((p ^ m - 1 : Nat) : Int) by omega, nat_mul]
                    rfl
            · rw [if_neg hd] at run
              rw [decide_eq_false hd]
              refine iteF ⟨_, rfl, _, _, rfl, rfl, rfl, fo, le, x, z, rfl, run⟩
        · rw [if_neg hle] at run
          rw [show decide ((1 : Int) < (le : Int)) = false from decide_eq_false (by omega)]
          refine iteF ⟨_, rfl, ?_⟩
          rw [Option.some.inj run]
          exact q
/-! ### ways_of, of nothing told -/
abbrev nWays : List Str := ["hours", "mark", "part", "dial", "flow", "rest", "k", "told", "common", "one", "free", "found"]
abbrev sWays : Stmt := topS 27
theorem scWays : FnScope nWays ["hours", "mark", "part", "dial"] (defScope sWays) := ⟨rfl, rfl, rfl, by decide +kernel, rfl, by decide +kernel, by decide +kernel⟩
structure WayIn (k g r m : Nat) : Prop where
  k0 : 0 < k
  k24 : k ≤ 24
  gk : g ∣ k
  one : m = 1 → r < g
  many : m ≠ 1 → (m = 2 ∨ m = 3 ∨ m = 4) ∧ k ≤ Ca.most m ∧ r ∣ g
def spWays : Sp := fun vs H Q _ => ∃ (a c t : Addr) (n k g r : Nat) (Pt : List Nat), vs = [iv k, .ref a, .ref c, .ref t] ∧ H a = some (.tup [iv g, iv r]) ∧ DialAt H c Pt ∧ H t = some (.lst (List.replicate n V.non)) ∧ (∀ i ∈ Pt, i < n) ∧ WayIn k g r Pt.length ∧
  ∀ H', Same H H' → Q (iv (Ca.wayC k (g, r) Pt.length)) H'
theorem ok_ways_of {f : Addr} {fd : FuncData} (F : Fun K "ways_of" "ways_of" sWays f fd) (B : Bt mg) (dG : Df P w K mg base 1 "gcd" ["one", "other"] spGcd) (dP : Df P w K mg base 1 "prime_to" ["number", "many"] spPrime) : FnOk P w K mg base CX0 2 f fd ["hours", "mark", "part", "dial"] spWays := by
  refine F.ok scWays (fun vs H Q E h => ?_) (fun cdv A outer s H vs Q E hr h => ?_)
  · obtain ⟨_, _, _, _, _, _, _, _, rfl, _⟩ := h
    rfl
  · obtain ⟨a, c, t, n, k, g, r, Pt, rfl, ha, hc, ht, hP, W, q⟩ := h
    have hc' : H c = some (.tup (Pt.map iv)) := hc
    have g0 : 0 < g := Nat.pos_of_dvd_of_pos W.gk W.k0
    have gk : g ≤ k := Nat.le_of_dvd W.k0 W.gk
    have k24 := W.k24
    refine ⟨_, pss_cons (ps_asg (pv 1) (pg_tup (by rfl) (pgs_cons (pg_name (i := 4) scWays.nd rfl (.inl rfl)) (pgs_cons (pg_name (i := 5) scWays.nd rfl (.inl rfl)) pgs_nil))))
      (pss_cons (ps_setLc (i := 7) (own := [("k", 6)]) (g := gName 6) (by rfl) scWays.nd rfl rfl (sw_true rfl rfl rfl (by decide +kernel)) (pi_tup (pv 2)) (blkOk_by (N := nWays) (sc := defScope sWays) (by decide +kernel))
          (fun _ _ _ _ _ => pg_name (i := 6) scWays.nd rfl (.inl rfl)) (fun _ _ _ _ _ => pts_one (pt_cmp (pc_notN (pe_ix (r := rIxL K) ix_list (pv 3) (pv 6) (fun _ _ => rfl))))) (fun _ _ _ _ _ => pe_ix (r := rIxL K) ix_list (pv 3) (pv 6) (fun _ _ => rfl)))
      (pss_cons (ps_if (pt_cmpR op_eq (pe_callB call_len_seq (by rfl) B.len PySem.boot_len (pa_cons (pv 2) pa_nil)) pe_int (nomark _))
        (pss_cons (ps_if (pt_cmpR (op_eqD hr.units) (pv 7) (pe_lst pa_nil) (nomark _)) (pss_one (ps_ret (pe_op op_fdiv (pv 0) (pv 4)))) pss_nil)
        (pss_one ps_never)) pss_nil)
      (pss_cons (ps_set (i := 8) scWays.nd rfl (.inl rfl) (pv 4))
      (pss_cons (ps_for PassesOwn.never (by rfl) (pi_list (pv 7)) (pg_name (i := 9) scWays.nd rfl (.inl rfl)) pss_never)
      (pss_cons (ps_if (pt_cmpR op_ne (pe_op op_mod (pv 8) (pv 5)) pe_int (nomark _)) pss_never pss_nil)
      (pss_cons (ps_set (i := 10) scWays.nd rfl (.inl rfl) (pe_op op_sub (pe_callB call_len_seq (by rfl) B.len PySem.boot_len (pa_cons (pv 2) pa_nil)) (pe_callB call_len_seq (by rfl) B.len PySem.boot_len (pa_cons (pv 7) pa_nil))))
      (pss_cons (ps_set (i := 11) scWays.nd rfl (.inl rfl) (pe_ifExp (pt_cmpR op_gt (pv 10) pe_int (nomark _)) (pe_df dP hr (pa_cons (pe_op op_fdiv (pv 8) (pv 5)) (pa_cons (pv 10) pa_nil)))
          (pe_callTy call_int1 (by rfl) B.int (by decide +kernel) (pa_cons (pe_cmpR op_eq (pv 8) (pv 5) (nomark _)) pa_nil))))
      (pss_cons (ps_for PassesOwn.never (by rfl) (pi_range1 (by rfl) B.range (pa_cons (pv 10) pa_nil)) (pg_name (i := 6) scWays.nd rfl (.inl rfl)) (pss_one (ps_aug (i := 11) scWays.nd rfl (.inl rfl) (pe_op op_fdiv (pv 0) (pv 8)) iop_mul)))
      (pss_one (ps_ret (pv 11))))))))))), ?_⟩
    refine ⟨_, rfl, a, _, rfl, SqT.of ha, rfl, _, _, rfl, _, _, rfl, rfl, ?_⟩
    -- told = []
    refine ⟨_, rfl, c, rfl, ⟨_, SqT.of hc'⟩, fun D hD => ?_⟩
    refine lc_tup (K := K) (a := c) (xs := Pt.map iv) (fun i H1 => Same H H1 ∧ H1 D = some (.lst [])) ⟨same_new hD, upd_same⟩ (fun i H1 _ z => SqT.of (z.1 _ _ hc')) ?_ ?_
    · rintro i v H1 hv ⟨s1, e1⟩
      obtain ⟨j, hj, rfl⟩ := get_map hv
      have jn := hP j (List.mem_of_getElem? hj)
      refine ⟨rfl, _, rfl, _, rfl, t, _, _, V.non, rfl, rfl, SqL.of (s1 _ _ ht), atI_nat (j := j) (by rw [List.getElem?_replicate, if_pos jn]), _, rfl, ?_⟩
      exact iteF ⟨s1, e1⟩
    · rintro H1 ⟨s1, e1⟩
      have c1 := s1 _ _ hc'
      -- if len(part) == 1
      refine ⟨_, rfl, c, _, rfl, .inr (SqT.of c1), rfl, _, rfl, ?_⟩
      by_cases one : Pt.length = 1
      · have d1 : decide (V.int ((Pt.map iv).length : Nat) = V.int 1) = true := decide_eq_true (by rw [List.length_map, one]; rfl)
        rw [d1]
        refine iteT ⟨_, rfl, Nat.zero_le _, fun l hl => ?_⟩
        have s2 : Same H1 (upd H1 l (.lst [])) := same_new hl
        refine ⟨.list [], .list [], .lst (SqL.of (s2 _ _ e1)) .nil, .lst (SqL.of upd_same) .nil, rfl, rfl, _, rfl, ?_⟩
        refine iteT ⟨_, rfl, _, rfl, _, _, rfl, rfl, ⟨by omega, by omega⟩, ?_⟩
        have e := Ca.way_one W.k0 W.k24 W.gk (W.one one)
        rw [← one] at e
        have q' := q _ (s1.trans s2)
        rw [e] at q'
        show Q (V.int ((k : Int) / (g : Int))) _
        rw [nat_div]
        exact q'
      · have d1 : decide (V.int ((Pt.map iv).length : Nat) = V.int 1) = false := decide_eq_false (fun z => one (by have := V.int.inj z; rw [List.length_map] at this; omega))
        rw [d1]
        obtain ⟨hm, km, rg⟩ := W.many one
        obtain ⟨cc, hcc, ew⟩ := Ca.way_many hm W.k0 km W.gk rg
        have r0 : 0 < r := Nat.pos_of_dvd_of_pos rg g0
        have rg' : r ≤ g := Nat.le_of_dvd g0 rg
        have m4 : Pt.length ≤ 4 := by omega
        have m2 : 2 ≤ Pt.length := by omega
        refine iteF ⟨_, rfl, _, rfl, D, rfl, ⟨_, SqL.of e1⟩, ?_⟩
        refine for_list (K := K) (a := D) (xs := []) (fun i σ H2 => H2 = H1 ∧ σ = [some (iv k), some (.ref a), some (.ref c), some (.ref t), some (iv g), some (iv r), none, some (.ref D), some (iv g), none, none, none]) ⟨rfl, rfl⟩ (fun i σ H2 _ ⟨e, _⟩ => by rw [e]; exact SqL.of e1) (fun i x σ H2 hx _ => by simp at hx) ?_
        rintro σ H2 ⟨rfl, rfl⟩
        -- if common % rest != 0
        refine ⟨_, rfl, _, rfl, _, _, rfl, rfl, by omega, rfl, _, rfl, ?_⟩
        have em : (V.int ((g : Int) % (r : Int)) = V.int 0) := by rw [emod_nat, Nat.mod_eq_zero_of_dvd rg]; rfl
        rw [decide_eq_true em]
        refine iteF ?_
        -- free
        refine ⟨_, rfl, c, _, rfl, .inr (SqT.of c1), _, rfl, D, _, rfl, .inl (SqL.of e1), _, _, rfl, rfl, ?_⟩
        have ef : (((Pt.map iv).length : Nat) : Int) - ((([] : List V).length : Nat) : Int) = (Pt.length : Int) := by rw [List.length_map]; simp
        dsimp only
        rw [ef]
        refine ⟨_, rfl, _, _, rfl, rfl, _, rfl, ?_⟩
        rw [show decide ((0 : Int) < (Pt.length : Int)) = true from decide_eq_true (by omega)]
        have gr1 : 1 ≤ g / r := Nat.div_pos rg' r0
        have gr2 : g / r ≤ 24 := Nat.le_trans (Nat.div_le_self _ _) (by omega)
        refine iteT ⟨_, rfl, _, rfl, _, _, rfl, rfl, ⟨by omega, by omega⟩, _, rfl, g / r, Pt.length, cc, ?_, gr1, gr2, m4, hcc, ?_⟩
        · show [V.int ((g : Int) / (r : Int)), V.int (Pt.length : Int)] = _
          rw [nat_div]
          rfl
        refine ⟨_, rfl, (Pt.length : Int), rfl, by omega, by omega, ?_⟩
        refine for_range (lo := 0) (n := (Pt.length : Int).toNat) (fun i σ H3 => H3 = H2 ∧ ∃ x, σ = [some (iv k), some (.ref a), some (.ref c), some (.ref t), some (iv g), some (iv r), x, some (.ref D), some (iv g), none, some (.int (Pt.length : Int)), some (iv (cc * (k / g) ^ i))]) ⟨rfl, none, ?_⟩ ?_ ?_
        · rw [Nat.pow_zero, Nat.mul_one]
          rfl
        · rintro i σ H3 hi ⟨rfl, x, rfl⟩
          have kg : k / g ≤ 24 := Nat.le_trans (Nat.div_le_self _ _) k24
          refine ⟨_, rfl, _, rfl, _, rfl, _, _, rfl, rfl, ⟨by omega, by omega⟩, _, _, rfl, rfl, .inr ?_, rfl, some (.int (0 + (i : Int))), ?_⟩
          · rw [nat_div]
            exact small64 (by omega)
          · show [some (iv k), some (.ref a), some (.ref c), some (.ref t), some (iv g), some (iv r), some (V.int (0 + (i : Int))), some (.ref D), some (iv g), none, some (.int (Pt.length : Int)), some (V.int (((cc * (k / g) ^ i : Nat) : Int) * ((k : Int) / (g : Int))))] = _
            rw [nat_div, nat_mul, Nat.mul_assoc, ← Nat.pow_succ]
            rfl
        · rintro σ H3 ⟨rfl, x, rfl⟩
          rw [show (Pt.length : Int).toNat = Pt.length by omega]
          refine ⟨_, rfl, ?_⟩
          have q' := q _ s1
          rw [ew] at q'
          exact q'
end
end CaW

set_option Elab.async false
set_option linter.all false
set_option maxRecDepth 100000
/-! count_with, come_count. -/
namespace Ca
theorem part_len_le {n : Nat} {as : Arrs} {p : Nat} : (part n as p).length ≤ n := Nat.le_trans (List.length_filter_le _ _) (by simp)
theorem part_len_pos {n : Nat} {as : Arrs} {p : Nat} (hp : p < n) : 1 ≤ (part n as p).length := List.length_pos_of_mem (mem_part.mpr ⟨hp, .refl p⟩)
theorem most_anti {m n : Nat} (h1 : 1 ≤ m) (h : m ≤ n) : most n ≤ most m := by
  unfold most
  by_cases a : m = 1
  · rw [if_pos a]
    split
    · omega
    · split
      · omega
      · split <;> omega
  · rw [if_neg a, if_neg (show ¬ n = 1 by omega)]
    by_cases b : m = 2
    · rw [if_pos b]
      split
      · omega
      · split <;> omega
    · rw [if_neg b, if_neg (show ¬ n = 2 by omega)]
      by_cases c : m = 3
      · rw [if_pos c]
        split <;> omega
      · rw [if_neg c, if_neg (show ¬ n = 3 by omega)]
        exact Nat.le_refl _
end Ca
namespace CaW
open PySem L2 CaR
theorem way_in {n k p : Nat} {as : Ca.Arrs} {d : List Nat} (hp : p < n) (k2 : 2 ≤ k) (k24 : k ≤ 24) (km : k ≤ Ca.most n) (n4 : n ≤ 4) : WayIn k (Ca.markP n as k d (Ca.part n as p)).1 (Ca.markP n as k d (Ca.part n as p)).2 (Ca.part n as p).length where
  k0 := by omega
  k24 := k24
  gk := Ca.flow_dvd
  one := fun h => by
    unfold Ca.markP
    rw [if_pos h]
    exact Nat.mod_lt _ (Ca.flow_pos (by omega))
  many := fun h => by
    have l1 := Ca.part_len_pos (as := as) hp
    have l2 := Ca.part_len_le (n := n) (as := as) (p := p)
    refine ⟨by omega, Nat.le_trans km (Ca.most_anti l1 l2), ?_⟩
    unfold Ca.markP
    rw [if_neg h]
    exact Ca.gcdf_dvd _
noncomputable def waysL (n : Nat) (as : Ca.Arrs) (k : Nat) (d : List Nat) : List Nat := (Ca.partsL n as).map fun Pt => Ca.wayC k (Ca.markP n as k d Pt) Pt.length
section
variable {P : Program} {w : World} {K : PySem.W.Frag} {mg : Str → Option Value} {base : Heap}
abbrev sCount : Stmt := topS 28
theorem scCount : FnScope ["web", "hours", "dial", "told", "found", "part"] ["web", "hours", "dial", "told"] (defScope sCount) := ⟨rfl, rfl, rfl, by decide +kernel, rfl, by decide +kernel, by decide +kernel⟩
def spCount : Sp := fun vs H Q _ => ∃ (a b t : Addr) (n k : Nat) (as : Ca.Arrs) (d : List Nat), vs = [.ref a, iv k, .ref b, .ref t] ∧ Inp H a b n k as d ∧ k ≤ Ca.most n ∧ H t = some (.lst (List.replicate n V.non)) ∧ ∀ H', Same H H' → Q (iv ((waysL n as k d).foldl (· * ·) 1)) H'
theorem ok_count_with {f : Addr} {fd : FuncData} (F : Fun K "count_with" "count_with" sCount f fd) (dP : Df P w K mg base 2 "parts_in" ["web"] spParts) (dW : Df P w K mg base 2 "ways_of" ["hours", "mark", "part", "dial"] spWays) (dM : Df P w K mg base 4 "mark_of" ["web", "hours", "dial", "part"] spMark) :
    FnOk P w K mg base CX0 5 f fd ["web", "hours", "dial", "told"] spCount := by
  refine F.ok scCount (fun vs H Q E h => ?_) (fun cdv A outer s H vs Q E hr h => ?_)
  · obtain ⟨_, _, _, _, _, _, _, rfl, _⟩ := h
    rfl
  · obtain ⟨a, b, t, n, k, as, d, rfl, I, km, ht, q⟩ := h
    have n4 := I.wb.n4
    have k2 := I.k2
    have k24 := I.k24
    refine ⟨_, pss_cons (ps_set (i := 4) scCount.nd rfl (.inl rfl) pe_int)
      (pss_cons (ps_for PassesOwn.never (by rfl) (pi_list (pe_df dP (hr.mono (by decide)) (pa_cons (pv 0) pa_nil))) (pg_name (i := 5) scCount.nd rfl (.inl rfl))
        (pss_one (ps_aug (i := 4) scCount.nd rfl (.inl rfl) (pe_df dW (hr.mono (by decide)) (pa_cons (pv 1) (pa_cons (pe_df dM hr (pa_cons (pv 0) (pa_cons (pv 1) (pa_cons (pv 2) (pa_cons (pv 5) pa_nil))))) (pa_cons (pv 5) (pa_cons (pv 3) pa_nil))))) iop_mul)))
      (pss_one (ps_ret (pv 4)))), ?_⟩
    refine ⟨_, rfl, a, n, as, rfl, I.web, I.wb, fun H1 l s1 hl => ?_⟩
    obtain ⟨ls, l1, al⟩ := hl
    refine ⟨l, rfl, ⟨_, SqL.of l1⟩, ?_⟩
    refine for_list (K := K) (a := l) (xs := ls.map V.ref) (fun i σ H2 => Same H1 H2 ∧ ∃ x, σ = [some (.ref a), some (iv k), some (.ref b), some (.ref t), some (iv (((waysL n as k d).take i).foldl (· * ·) 1)), x]) ⟨Same.refl _, none, rfl⟩ (fun i σ H2 _ z => SqL.of (z.1 _ _ l1)) ?_ ?_
    · rintro i v σ H2 hv ⟨s2, x, rfl⟩
      obtain ⟨c, hc, rfl⟩ := get_map hv
      obtain ⟨Pt, hPt, gc⟩ := al.of hc
      obtain ⟨p, hp, rfl⟩ := Ca.mem_partsL.mp (List.mem_of_getElem? hPt)
      have s12 := s1.trans s2
      refine ⟨_, rfl, _, rfl, _, rfl, _, rfl, _, rfl, _, rfl, a, b, c, n, k, p, as, d, rfl, I.same s12, hp, s2 _ _ gc, fun H3 r s3 nr hr' => ?_⟩
      have s13 := s12.trans s3
      refine ⟨_, rfl, _, rfl, r, c, t, n, k, _, _, Ca.part n as p, rfl, hr', s3 _ _ (s2 _ _ gc), s13 _ _ ht, fun i hi => (Ca.mem_part.mp hi).1, way_in hp k2 k24 km n4, fun H4 s4 => ?_⟩
      have wl := Ca.way_small (k := k) (m := (Ca.part n as p).length) (M := Ca.markP n as k d (Ca.part n as p)) k24 (Nat.le_trans Ca.part_len_le n4)
      refine ⟨_, _, rfl, rfl, .inr (small64 (Nat.le_trans wl (by decide))), (s2.trans s3).trans s4, some (.ref c), ?_⟩
      have hw : (waysL n as k d)[i]? = some (Ca.wayC k (Ca.markP n as k d (Ca.part n as p)) (Ca.part n as p).length) := by
        unfold waysL
        rw [List.getElem?_map, hPt]
        rfl
      rw [take_snoc hw, List.foldl_append]
      show [some (.ref a), some (iv k), some (.ref b), some (.ref t), some (V.int (((List.foldl (· * ·) 1 ((waysL n as k d).take i) : Nat) : Int) * ((Ca.wayC k (Ca.markP n as k d (Ca.part n as p)) (Ca.part n as p).length : Nat) : Int))), some (.ref c)] = _
      rw [nat_mul]
      rfl
    · rintro σ H2 ⟨s2, x, rfl⟩
      have et : (waysL n as k d).take (ls.map V.ref).length = waysL n as k d := List.take_of_length_le (by unfold waysL; rw [List.length_map, List.length_map, al.1]; exact Nat.le_refl _)
      rw [et]
      exact ⟨_, rfl, q _ (s1.trans s2)⟩
abbrev sCome : Stmt := topS 29
theorem scCome : FnScope ["web", "hours", "dial"] ["web", "hours", "dial"] (defScope sCome) := ⟨rfl, rfl, rfl, by decide +kernel, rfl, by decide +kernel, by decide +kernel⟩
def spCome : Sp := fun vs H Q _ => ∃ (a b : Addr) (n k : Nat) (as : Ca.Arrs) (d : List Nat), vs = [.ref a, iv k, .ref b] ∧ Inp H a b n k as d ∧ k ≤ Ca.most n ∧ ∀ H', Same H H' → Q (iv ((waysL n as k d).foldl (· * ·) 1)) H'
theorem ok_come_count {f : Addr} {fd : FuncData} (F : Fun K "come_count" "come_count" sCome f fd) (dN : Df P w K mg base 4 "need_all" ["web", "hours", "dial"] spNAll) (dC : Df P w K mg base 5 "count_with" ["web", "hours", "dial", "told"] spCount) :
    FnOk P w K mg base CX0 6 f fd ["web", "hours", "dial"] spCome := by
  refine F.ok scCome (fun vs H Q E h => ?_) (fun cdv A outer s H vs Q E hr h => ?_)
  · obtain ⟨_, _, _, _, _, _, rfl, _⟩ := h
    rfl
  · obtain ⟨a, b, n, k, as, d, rfl, I, km, q⟩ := h
    have n4 := I.wb.n4
    refine ⟨_, pss_cons (ps_expr (pe_df dN (hr.mono (by decide)) (pa_cons (pv 0) (pa_cons (pv 1) (pa_cons (pv 2) pa_nil)))))
      (pss_one (ps_ret (pe_df dC hr (pa_cons (pv 0) (pa_cons (pv 1) (pa_cons (pv 2) (pa_cons (pe_op op_rep (pe_lst (pa_cons pe_non pa_nil)) (pe_ix ix_tup (pv 0) pe_int (fun _ _ => rfl))) pa_nil))))))), ?_⟩
    refine ⟨_, rfl, _, rfl, _, rfl, a, b, n, k, as, d, rfl, I, fun H1 s1 => ?_⟩
    obtain ⟨t, hwa, _⟩ := I.web
    refine ⟨_, rfl, _, rfl, _, rfl, (by show 1 ≤ sizeLine; decide), fun l hl => ?_⟩
    have s2 : Same H1 (upd H1 l (.lst [V.non])) := same_new hl
    have s12 := s1.trans s2
    refine ⟨_, rfl, a, _, _, iv n, rfl, rfl, SqT.of (s12 _ _ hwa), atI_nat (j := 0) rfl, l, (n : Int), [V.non], rfl, rfl, upd_same, by omega, by omega, ?_, fun m hm => ?_⟩
    · refine Nat.le_trans (m := 4) ?_ (by decide)
      show 1 * (n : Int).toNat ≤ 4
      omega
    have s3 := s12.trans (same_new (o := HO.lst (List.replicate (n : Int).toNat [V.non]).flatten) hm)
    refine ⟨a, b, m, n, k, as, d, rfl, I.same s3, km, ?_, fun H2 s4 => q _ (s3.trans s4)⟩
    rw [upd_same]
    have e : ∀ j : Nat, (List.replicate j [V.non]).flatten = List.replicate j V.non := fun j => by
      induction j with
      | zero => rfl
      | succ j ih => rw [List.replicate_succ, List.flatten_cons, ih, List.replicate_succ]; rfl
    rw [e, show (n : Int).toNat = n by omega]
end
end CaW

set_option Elab.async false
set_option linter.all false
set_option maxRecDepth 100000
/-! The law's draws: _law_taken, _law_pick. -/
namespace CaW
open PySem L2 CaR
/-- all but what stands at r -/
def SameX (r : Addr) (H H' : Hp) : Prop := ∀ b o, H b = some o → b ≠ r → H' b = some o
theorem SameX.refl (r : Addr) (H : Hp) : SameX r H H := fun _ _ e _ => e
theorem SameX.trans {r : Addr} {H H1 H2 : Hp} (a : SameX r H H1) (b : SameX r H1 H2) : SameX r H H2 := fun c o e n => b c o (a c o e n) n
theorem Same.x {r : Addr} {H H' : Hp} (s : Same H H') : SameX r H H' := fun b o e _ => s b o e
theorem SameX.put {r : Addr} {H H' : Hp} {o : HO} (s : SameX r H H') : SameX r H (upd H' r o) := fun b x e n => by
  rw [upd_ne n]
  exact s b x e n
/-- the script: known to its object, or written -/
def ScrAt (K : PySem.W.Frag) (H : Hp) (a : Addr) (xs : List V) : Prop := (∃ o, H a = some (.frz o (.lst xs))) ∨ ∀ H' : Hp, SqL K H' a xs
theorem ScrAt.sqL {K : PySem.W.Frag} {H : Hp} {a : Addr} {xs : List V} (h : ScrAt K H a xs) : SqL K H a xs := by
  rcases h with ⟨o, h⟩ | h
  · exact .inl (.inr ⟨o, h⟩)
  · exact h H
theorem ScrAt.keep {K : PySem.W.Frag} {H H' : Hp} {a : Addr} {xs : List V} (h : ScrAt K H a xs) (k : ∀ b o u, H b = some (.frz o u) → H' b = some (.frz o u)) : ScrAt K H' a xs := by
  rcases h with ⟨o, h⟩ | h
  · exact .inl ⟨o, k _ _ _ h⟩
  · exact .inr h
theorem frz_x {r : Addr} {H H' : Hp} {ys : List V} (s : SameX r H H') (hr : H r = some (.lst ys)) : ∀ b o u, H b = some (.frz o u) → H' b = some (.frz o u) := fun b o u e => s _ _ e (ne_of e hr (fun z => nomatch z))
/-- the row of draws at r -/
structure Row (K : PySem.W.Frag) (H : Hp) (r : Addr) : Prop where
  ex : ∃ (sa : Addr) (ns : List Int) (i z g : Int), H r = some (.lst [.ref sa, .int i, .int z, .int g]) ∧ ScrAt K H sa (ns.map V.int) ∧ 0 ≤ i ∧ 0 ≤ z ∧ z < 2147483647
theorem Row.same {K : PySem.W.Frag} {H H' : Hp} {r : Addr} (R : Row K H r) (s : Same H H') : Row K H' r := by
  obtain ⟨sa, ns, i, z, g, e, q, h⟩ := R.ex
  exact ⟨sa, ns, i, z, g, s _ _ e, q.keep fun b o u e => s _ _ e, h⟩
/-- a list other than the row is written -/
theorem Row.put {K : PySem.W.Frag} {H : Hp} {r p : Addr} {xs : List V} {o : HO} (R : Row K H r) (hp : H p = some (.lst xs)) (n : p ≠ r) : Row K (upd H p o) r := by
  obtain ⟨sa, ns, i, z, g, e, q, h⟩ := R.ex
  exact ⟨sa, ns, i, z, g, by rw [upd_ne n.symm]; exact e, q.keep fun b o' u e' => by rw [upd_ne (ne_of e' hp (fun z => nomatch z))]; exact e', h⟩
theorem Row.there {K : PySem.W.Frag} {H : Hp} {r : Addr} (R : Row K H r) : ∃ o, H r = some o := by
  obtain ⟨_, _, _, _, _, e, _⟩ := R.ex
  exact ⟨_, e⟩
section
variable {P : Program} {w : World} {K : PySem.W.Frag} {mg : Str → Option Value} {base : Heap}
abbrev sTaken : Stmt := topS 31
theorem scTaken : FnScope ["_law_row", "_law_many", "_law_found", "_law_cell"] ["_law_row", "_law_many"] (defScope sTaken) := ⟨rfl, rfl, rfl, by decide +kernel, rfl, by decide +kernel, by decide +kernel⟩
def spTaken (K : PySem.W.Frag) : Sp := fun vs H Q _ => ∃ (r : Addr) (m : Nat), vs = [.ref r, iv m] ∧ Row K H r ∧ 1 ≤ m ∧ m ≤ 1000 ∧ ∀ H' (t : Nat), SameX r H H' → Row K H' r → t < m → Q (iv t) H'
theorem mod_iv (x : Int) {m : Nat} (hm : 1 ≤ m) : ∃ t : Nat, t < m ∧ x % (m : Int) = (t : Int) := by
  have h1 := Int.emod_nonneg x (show (m : Int) ≠ 0 by omega)
  have h2 := Int.emod_lt_of_pos x (show (0 : Int) < (m : Int) by omega)
  exact ⟨(x % (m : Int)).toNat, by omega, by omega⟩
theorem div_ok {m : Nat} (hm : 1 ≤ m) (h : m ≤ 1000) (x : Int) : CDivW x (m : Int) := wide_div (b := 10) (by omega) (by show ((m : Int)).natAbs < 1024; omega) (by decide) (by decide)
theorem ok_taken {f : Addr} {fd : FuncData} (F : Fun K "_law_taken" "_law_taken" sTaken f fd) (B : Bt mg) : FnOk P w K mg base CX0 1 f fd ["_law_row", "_law_many"] (spTaken K) := by
  refine F.ok scTaken (fun vs H Q E h => ?_) (fun cdv A outer s H vs Q E hr h => ?_)
  · obtain ⟨_, _, rfl, _⟩ := h
    rfl
  · obtain ⟨r, m, rfl, R, hm, hm2, q⟩ := h
    obtain ⟨sa, ns, i, z, g, e, hs, i0, z0, z1⟩ := R.ex
    refine ⟨_, pss_cons (ps_if (pt_cmpR op_gt (pe_ix ix_list (pv 0) pe_int (fun _ _ => rfl)) pe_int (nomark _))
        (pss_cons (ps_set (i := 2) scTaken.nd rfl (.inl rfl) (pe_op op_mod (pe_callTy call_int1 (by rfl) B.int (by decide +kernel) (pa_cons (pe_ix ix_list (pv 0) pe_int (fun _ _ => rfl)) pa_nil)) (pv 1)))
        (pss_cons (ps_asg (pe_op op_fdivW (pe_ix ix_list (pv 0) pe_int (fun _ _ => rfl)) (pv 1)) (pg_sub (pv 0) pe_int set_list))
        (pss_one (ps_ret (pv 2))))) pss_nil)
      (pss_cons (ps_asg (pe_op op_add (pe_ix ix_list (pv 0) pe_int (fun _ _ => rfl)) pe_int) (pg_sub (pv 0) pe_int set_list))
      (pss_cons (ps_if (pt_cmpR op_gt (pe_ix ix_list (pv 0) pe_int (fun _ _ => rfl)) (pe_callB call_len_seq (by rfl) B.len PySem.boot_len (pa_cons (pe_ix ix_list (pv 0) pe_int (fun _ _ => rfl)) pa_nil)) (nomark _))
        (pss_cons (ps_asg (pe_op op_mod (pe_callTy call_int1 (by rfl) B.int (by decide +kernel) (pa_cons (pe_op op_add (pe_op op_mul (pe_ix ix_list (pv 0) pe_int (fun _ _ => rfl)) pe_int) pe_int) pa_nil)) pe_int) (pg_sub (pv 0) pe_int set_list))
        (pss_one (ps_ret (pe_op op_mod (pe_callTy call_int1 (by rfl) B.int (by decide +kernel) (pa_cons (pe_op op_fdiv (pe_ix ix_list (pv 0) pe_int (fun _ _ => rfl)) pe_int) pa_nil)) (pv 1))))) pss_nil)
      (pss_cons (ps_set (i := 3) scTaken.nd rfl (.inl rfl) (pe_ix ix_list (pe_ix ix_list (pv 0) pe_int (fun _ _ => rfl)) (pe_op op_sub (pe_ix ix_list (pv 0) pe_int (fun _ _ => rfl)) pe_int) (fun _ _ => rfl)))
      (pss_cons (ps_asg (pe_op op_mod (pe_callTy call_int1 (by rfl) B.int (by decide +kernel) (pa_cons (pe_op op_add (pe_op op_add (pe_op op_mul (pe_ix ix_list (pv 0) pe_int (fun _ _ => rfl)) pe_int) (pv 3)) pe_int) pa_nil)) pe_int) (pg_sub (pv 0) pe_int set_list))
      (pss_cons (ps_if (pt_cmpR op_ge (pv 3) (pe_op op_pow pe_int pe_int) (nomark _))
        (pss_one (ps_asg (pe_op op_fdivW (pv 3) (pv 1)) (pg_sub (pv 0) pe_int set_list))) pss_nil)
      (pss_one (ps_ret (pe_op op_mod (pe_callTy call_int1 (by rfl) B.int (by decide +kernel) (pa_cons (pv 3) pa_nil)) (pv 1))))))))), ?_⟩
    -- if row[3] > 0
    refine ⟨_, rfl, r, _, _, .int g, rfl, rfl, SqL.of e, atI_nat (j := 3) rfl, _, _, rfl, rfl, _, rfl, ?_⟩
    by_cases hg : (0 : Int) < g
    · rw [decide_eq_true hg]
      obtain ⟨t, ht, et⟩ := mod_iv g hm
      refine iteT ⟨_, rfl, r, _, _, .int g, rfl, rfl, SqL.of e, atI_nat (j := 3) rfl, .inl ⟨_, rfl, _, rfl, _, _, rfl, rfl, by omega, ?_⟩⟩
      refine ⟨_, rfl, r, _, _, .int g, rfl, rfl, SqL.of e, atI_nat (j := 3) rfl, _, rfl, _, _, rfl, rfl, div_ok hm hm2 g, _, rfl, r, _, _, 3, rfl, rfl, e, rfl, ?_⟩
      refine ⟨_, rfl, ?_⟩
      show Q (V.int (g % (m : Int))) _
      rw [et]
      exact q _ t (SameX.refl r H).put ⟨sa, ns, i, z, g / (m : Int), upd_same, hs.keep (frz_x (SameX.refl r H).put e), i0, z0, z1⟩ ht
    · rw [decide_eq_false hg]
      -- row[1] = row[1] + 1
      refine iteF ⟨_, rfl, r, _, _, .int i, rfl, rfl, SqL.of e, atI_nat (j := 1) rfl, _, _, rfl, rfl, _, rfl, r, _, _, 1, rfl, rfl, e, rfl, ?_⟩
      have e1 : (upd H r (.lst ([V.ref sa, .int i, .int z, .int g].set 1 (.int (i + 1))))) r = some (.lst [V.ref sa, .int (i + 1), .int z, .int g]) := upd_same
      have s1 : SameX r H (upd H r (.lst ([V.ref sa, .int i, .int z, .int g].set 1 (.int (i + 1))))) := (SameX.refl r H).put
      generalize (upd H r (.lst ([V.ref sa, .int i, .int z, .int g].set 1 (.int (i + 1))))) = H1 at e1 s1 ⊢
      have hs1 := (hs.keep (frz_x s1 e)).sqL
      -- if row[1] > len(row[0])
      refine ⟨_, rfl, r, _, _, .int (i + 1), rfl, rfl, SqL.of e1, atI_nat (j := 1) rfl, _, rfl, r, _, _, .ref sa, rfl, rfl, SqL.of e1, atI_nat (j := 0) rfl, sa, _, rfl, .inl hs1, _, _, rfl, rfl, _, rfl, ?_⟩
      by_cases hl : (((ns.map V.int).length : Nat) : Int) < i + 1
      · rw [decide_eq_true hl]
        refine iteT ⟨_, rfl, r, _, _, .int z, rfl, rfl, SqL.of e1, atI_nat (j := 2) rfl, _, _, rfl, rfl, .inr ⟨by decide, by decide⟩, _, _, rfl, rfl, .inl ⟨_, rfl, _, _, rfl, rfl, (by show (0 : Int) < 2147483647; decide), _, rfl, r, _, _, 2, rfl, rfl, e1, rfl, ?_⟩⟩
        have b1 := Int.emod_nonneg (z * 48271 + 11) (show (2147483647 : Int) ≠ 0 by decide)
        have b2 := Int.emod_lt_of_pos (z * 48271 + 11) (show (0 : Int) < 2147483647 by decide)
        generalize hz' : (z * 48271 + 11) % 2147483647 = z' at b1 b2
        have e2 : (upd H1 r (.lst ([V.ref sa, .int (i + 1), .int z, .int g].set 2 (.int ((z * 48271 + 11) % 2147483647))))) r = some (.lst [V.ref sa, .int (i + 1), .int z', .int g]) := by rw [hz']; exact upd_same
        have s2 : SameX r H (upd H1 r (.lst ([V.ref sa, .int (i + 1), .int z, .int g].set 2 (.int ((z * 48271 + 11) % 2147483647))))) := s1.put
        obtain ⟨t, ht, et⟩ := mod_iv (z' / 7) hm
        refine ⟨_, rfl, r, _, _, .int z', rfl, rfl, SqL.of e2, atI_nat (j := 2) rfl, _, _, rfl, rfl, ⟨by decide, by decide⟩, .inl ⟨_, rfl, _, rfl, _, _, rfl, rfl, by omega, ?_⟩⟩
        show Q (V.int (z' / 7 % (m : Int))) _
        rw [et]
        exact q _ t s2 ⟨sa, ns, i + 1, z', g, e2, hs.keep (frz_x s2 e), by omega, b1, b2⟩ ht
      · rw [decide_eq_false hl]
        rw [List.length_map] at hl
        obtain ⟨j, hj⟩ : ∃ j : Nat, i = (j : Int) := ⟨i.toNat, by omega⟩
        have jl : j < ns.length := by omega
        have hc : (ns.map V.int)[j]? = some (.int (ns[j]'jl)) := by rw [List.getElem?_map, List.getElem?_eq_getElem jl]; rfl
        generalize (ns[j]'jl) = cell at hc
        -- the cell
        refine iteF ⟨_, rfl, r, _, _, .ref sa, rfl, rfl, SqL.of e1, atI_nat (j := 0) rfl, _, rfl, r, _, _, .int (i + 1), rfl, rfl, SqL.of e1, atI_nat (j := 1) rfl, _, _, rfl, rfl, sa, _, _, .int cell, rfl, rfl, hs1, at_of (j := j) (by omega) hc, ?_⟩
        refine ⟨_, rfl, r, _, _, .int z, rfl, rfl, SqL.of e1, atI_nat (j := 2) rfl, _, _, rfl, rfl, .inr ⟨by decide, by decide⟩, _, rfl, _, _, rfl, rfl, _, _, rfl, rfl, .inl ⟨_, rfl, _, _, rfl, rfl, (by show (0 : Int) < 2147483647; decide), _, rfl, r, _, _, 2, rfl, rfl, e1, rfl, ?_⟩⟩
        have b1 := Int.emod_nonneg (z * 48271 + cell + 11) (show (2147483647 : Int) ≠ 0 by decide)
        have b2 := Int.emod_lt_of_pos (z * 48271 + cell + 11) (show (0 : Int) < 2147483647 by decide)
        generalize hz' : (z * 48271 + cell + 11) % 2147483647 = z' at b1 b2
        have e2 : (upd H1 r (.lst ([V.ref sa, .int (i + 1), .int z, .int g].set 2 (.int ((z * 48271 + cell + 11) % 2147483647))))) r = some (.lst [V.ref sa, .int (i + 1), .int z', .int g]) := by rw [hz']; exact upd_same
        have s2 : SameX r H (upd H1 r (.lst ([V.ref sa, .int (i + 1), .int z, .int g].set 2 (.int ((z * 48271 + cell + 11) % 2147483647))))) := s1.put
        obtain ⟨t, ht, et⟩ := mod_iv cell hm
        refine ⟨_, rfl, _, _, rfl, rfl, ⟨by decide, by decide, by decide⟩, _, _, rfl, rfl, _, rfl, ?_⟩
        by_cases big : ((10 : Int) ^ (18 : Int).toNat) ≤ cell
        · rw [decide_eq_true big]
          refine iteT ⟨_, rfl, _, rfl, _, _, rfl, rfl, div_ok hm hm2 cell, _, rfl, r, _, _, 3, rfl, rfl, e2, rfl, ?_⟩
          refine ⟨_, rfl, .inl ⟨_, rfl, _, rfl, _, _, rfl, rfl, by omega, ?_⟩⟩
          show Q (V.int (cell % (m : Int))) _
          rw [et]
          exact q _ t s2.put ⟨sa, ns, i + 1, z', cell / (m : Int), upd_same, hs.keep (frz_x s2.put e), by omega, b1, b2⟩ ht
        · rw [decide_eq_false big]
          refine iteF ⟨_, rfl, .inl ⟨_, rfl, _, rfl, _, _, rfl, rfl, by omega, ?_⟩⟩
          show Q (V.int (cell % (m : Int))) _
          rw [et]
          exact q _ t s2 ⟨sa, ns, i + 1, z', g, e2, hs.keep (frz_x s2 e), by omega, b1, b2⟩ ht
/-! ### _law_pick -/
abbrev sPick : Stmt := topS 32
theorem scPick : FnScope ["_law_row", "_law_things"] ["_law_row", "_law_things"] (defScope sPick) := ⟨rfl, rfl, rfl, by decide +kernel, rfl, by decide +kernel, by decide +kernel⟩
def spPick (K : PySem.W.Frag) : Sp := fun vs H Q _ => ∃ (r l : Addr) (xs : List V), vs = [.ref r, .ref l] ∧ Row K H r ∧ H l = some (.lst xs) ∧ l ≠ r ∧ 1 ≤ xs.length ∧ xs.length ≤ 1000 ∧ ∀ H' v, SameX r H H' → Row K H' r → v ∈ xs → Q v H'
theorem ok_pick {f : Addr} {fd : FuncData} (F : Fun K "_law_pick" "_law_pick" sPick f fd) (B : Bt mg) (dT : Df P w K mg base 1 "_law_taken" ["_law_row", "_law_many"] (spTaken K)) : FnOk P w K mg base CX0 2 f fd ["_law_row", "_law_things"] (spPick K) := by
  refine F.ok scPick (fun vs H Q E h => ?_) (fun cdv A outer s H vs Q E hr h => ?_)
  · obtain ⟨_, _, _, rfl, _⟩ := h
    rfl
  · obtain ⟨r, l, xs, rfl, R, hl, ne, h1, h2, q⟩ := h
    refine ⟨_, pss_one (ps_ret (pe_ix ix_list (pv 1) (pe_df dT hr (pa_cons (pv 0) (pa_cons (pe_callB call_len_seq (by rfl) B.len PySem.boot_len (pa_cons (pv 1) pa_nil)) pa_nil))) (fun _ _ => rfl))), ?_⟩
    refine ⟨_, rfl, _, rfl, _, rfl, l, _, rfl, .inl (SqL.of hl), r, xs.length, rfl, R, h1, h2, fun H' t s1 R1 ht => ?_⟩
    exact ⟨l, xs, _, xs[t], rfl, rfl, SqL.of (s1 _ _ hl ne), atI_nat (List.getElem?_eq_getElem ht), q _ _ s1 R1 (List.getElem_mem ht)⟩
end
end CaW

set_option Elab.async false
set_option linter.all false
set_option maxRecDepth 100000
/-! The law's draws: _law_web. -/
namespace CaW
open PySem L2 CaR
theorem tIfS_by {c : TT} {t u : TS} {D : Ends} {σ : L2.St} {H : Hp} (R : Bool → Hp → Prop) (h : ∀ Q' : Bool → Hp → Prop, (∀ b H2, R b H2 → Q' b H2) → c σ H Q') (ht : ∀ H2, R true H2 → t D σ H2) (hf : ∀ H2, R false H2 → u D σ H2) : tIfS c t u D σ H :=
  h _ fun b H2 r => by
    cases b with
    | true => exact iteT (ht H2 r)
    | false => exact iteF (hf H2 r)
theorem tIf_by {t : TT} {ta tb : TE} {σ : L2.St} {H : Hp} {Q : VK} (R : V → Hp → Prop) (h : ∀ Q' : VK, (∀ v H', R v H' → Q' v H') → tIf t ta tb σ H Q') (k : ∀ v H', R v H' → Q v H') : tIf t ta tb σ H Q := h Q k
theorem seq_by {t u : TS} {D : Ends} {σ : L2.St} {H : Hp} (M : L2.St → Hp → Prop) (h : ∀ N : L2.St → Hp → Prop, (∀ σ' H', M σ' H' → N σ' H') → t { D with nx := N } σ H) (hu : ∀ σ' H', M σ' H' → u D σ' H') : tSeq t u D σ H := h _ hu
theorem TsAt.x {H H' : Hp} {r l : Addr} {xss : List (List Nat)} (h : TsAt H l xss) (s : SameX r H H') (n : l ≠ r) (hr : ∃ xs, H r = some (.lst xs)) : TsAt H' l xss := by
  obtain ⟨ls, h1, h2⟩ := h
  obtain ⟨xs, hr⟩ := hr
  exact ⟨ls, s _ _ h1 n, h2.mono fun p _ xs g => s _ _ g (ne_of g hr (fun z => nomatch z))⟩
theorem Row.lst {K : PySem.W.Frag} {H : Hp} {r : Addr} (R : Row K H r) : ∃ xs, H r = some (.lst xs) := by
  obtain ⟨_, _, _, _, _, e, _⟩ := R.ex
  exact ⟨_, e⟩
def GoodE (n : Nat) (es : List (Nat × Nat)) : Prop := ∀ e ∈ es, e.1 < n ∧ e.2 < n ∧ e.1 ≠ e.2
/-- the arrows of a row -/
def rowE (m : Nat) : List (Nat × Nat) := (List.range m).map fun k => (k, k + 1)
theorem rowE_succ (m : Nat) : rowE (m + 1) = rowE m ++ [(m, m + 1)] := by unfold rowE; rw [List.range_succ, List.map_append]; rfl
theorem rowE_good {m n : Nat} (h : m < n) : GoodE n (rowE m) := fun e he => by
  unfold rowE at he
  obtain ⟨k, hk, rfl⟩ := List.mem_map.mp he
  have := List.mem_range.mp hk
  exact ⟨by show k < n; omega, by show k + 1 < n; omega, by show k ≠ k + 1; omega⟩
theorem rowE_len (m : Nat) : (rowE m).length = m := by unfold rowE; simp
/-- what a drawn row is -/
def RowE (n : Nat) (H : Hp) (b : Rw) : Prop := ∃ e : Nat × Nat, b.2 = [(e.1 : Int), (e.2 : Int)] ∧ ArAt H b.1 e ∧ e.1 < n ∧ e.2 < n ∧ e.1 ≠ e.2
theorem web_of_rows {n : Nat} {H : Hp} : ∀ {L : List Rw}, (∀ b ∈ L, RowE n H b) → L.Pairwise (fun x y => rwLe x y = true) → (L.map (·.2)).Nodup →
    ∃ as : Ca.Arrs, as.length = L.length ∧ (∀ (i : Nat) (b : Rw) (e : Nat × Nat), L[i]? = some b → as[i]? = some e → b.2 = [(e.1 : Int), (e.2 : Int)] ∧ ArAt H b.1 e) ∧ Ca.WebOk n as ∧ as.Pairwise lexP ∧ ∀ e ∈ as, ∃ b ∈ L, b.2 = [(e.1 : Int), (e.2 : Int)]
  | [], _, _, _ => ⟨[], rfl, (fun i b e h _ => by simp at h), (fun _ h => nomatch h), List.Pairwise.nil, (fun _ h => nomatch h)⟩
  | b :: L, h, hp, hn => by
    obtain ⟨hp1, hp2⟩ := List.pairwise_cons.mp hp
    rw [List.map_cons, List.nodup_cons] at hn
    obtain ⟨as, a1, a2, a3, a4, a5⟩ := web_of_rows (fun c hc => h c (List.mem_cons_of_mem _ hc)) hp2 hn.2
    obtain ⟨e, e1, e2, e3, e4, e5⟩ := h b List.mem_cons_self
    refine ⟨e :: as, by rw [List.length_cons, List.length_cons, a1], fun i c f hc hf => ?_, fun f hf => ?_, ?_, fun f hf => ?_⟩
    · cases i with
      | zero =>
        cases hc
        cases hf
        exact ⟨e1, e2⟩
      | succ i => exact a2 i c f (by simpa using hc) (by simpa using hf)
    · rcases List.mem_cons.mp hf with q | q
      · rw [q]; exact ⟨e3, e4, e5⟩
      · exact a3 f q
    · refine List.pairwise_cons.mpr ⟨fun f hf => ?_, a4⟩
      obtain ⟨c, hc, ec⟩ := a5 f hf
      have le := hp1 c hc
      obtain ⟨ba, bs⟩ := b
      obtain ⟨ca, cs⟩ := c
      have e1' : bs = [(e.1 : Int), (e.2 : Int)] := e1
      have ec' : cs = [(f.1 : Int), (f.2 : Int)] := ec
      subst e1' ec'
      have l := rwLe_pair le
      have ne : ¬ ((e.1 : Int) = f.1 ∧ (e.2 : Int) = f.2) := fun z => hn.1 (List.mem_map.mpr ⟨_, hc, by rw [← z.1, ← z.2]⟩)
      unfold lexP
      omega
    · rcases List.mem_cons.mp hf with q | q
      · exact ⟨b, List.mem_cons_self, by rw [q]; exact e1⟩
      · obtain ⟨c, hc, ec⟩ := a5 f q
        exact ⟨c, List.mem_cons_of_mem _ hc, ec⟩
/-- the arrows' list as rows -/
theorem rows_of_ts {n : Nat} {H : Hp} : ∀ {ps : List Addr} {es : List (Nat × Nat)}, ps.length = es.length → (∀ (i : Nat) (p : Addr) (e : Nat × Nat), ps[i]? = some p → es[i]? = some e → ArAt H p e) → GoodE n es →
    ∃ L : List Rw, ps.map V.ref = L.map (fun p => V.ref p.1) ∧ L.length = es.length ∧ ∀ b ∈ L, RowE n H b
  | [], [], _, _, _ => ⟨[], rfl, rfl, fun _ h => nomatch h⟩
  | p :: ps, e :: es, hl, h, g => by
    obtain ⟨L, l1, l2, l3⟩ := rows_of_ts (n := n) (H := H) (ps := ps) (es := es) (by simpa using hl) (fun i q f a b => h (i + 1) q f (by simpa using a) (by simpa using b)) fun f hf => g f (List.mem_cons_of_mem _ hf)
    have ge := g e List.mem_cons_self
    refine ⟨(p, [(e.1 : Int), (e.2 : Int)]) :: L, by rw [List.map_cons, List.map_cons, l1], by rw [List.length_cons, List.length_cons, l2], fun b hb => ?_⟩
    rcases List.mem_cons.mp hb with q | q
    · rw [q]; exact ⟨e, rfl, h 0 p e rfl rfl, ge⟩
    · exact l3 b q
  | [], _ :: _, hl, _, _ => by simp at hl
  | _ :: _, [], hl, _, _ => by simp at hl
section
variable {P : Program} {w : World} {K : PySem.W.Frag} {mg : Str → Option Value} {base : Heap}
abbrev nLWeb : List Str := ["_law_row", "_law_most", "_law_many", "_law_way", "_law_thin", "_law_arrows", "_law_k", "_law_j"]
abbrev sLWeb : Stmt := topS 33
theorem scLWeb : FnScope nLWeb ["_law_row", "_law_most"] (defScope sLWeb) := ⟨rfl, rfl, rfl, by decide +kernel, rfl, by decide +kernel, by decide +kernel⟩
def spLWeb (K : PySem.W.Frag) : Sp := fun vs H Q _ => ∃ r : Addr, vs = [.ref r, iv 4] ∧ Row K H r ∧ ∀ (H' : Hp) (a : Addr) (n : Nat) (as : Ca.Arrs), SameX r H H' → Row K H' r → WebAt H' a n as → Wb n as → Q (.ref a) H'
/-- the state of the drawing: the list at l holds the arrows es -/
structure Drw (K : PySem.W.Frag) (H0 H : Hp) (r l : Addr) (n : Nat) (es : List (Nat × Nat)) : Prop where
  sx : SameX r H0 H
  row : Row K H r
  at_ : TsAt H l (es.map pr)
  ne : l ≠ r
  good : GoodE n es
theorem Drw.draw {H0 H H' : Hp} {r l : Addr} {n : Nat} {es : List (Nat × Nat)} (D : Drw K H0 H r l n es) (s : SameX r H H') (R : Row K H' r) : Drw K H0 H' r l n es :=
  ⟨D.sx.trans s, R, D.at_.x s D.ne D.row.lst, D.ne, D.good⟩
theorem ok_lweb {f : Addr} {fd : FuncData} (F : Fun K "_law_web" "_law_web" sLWeb f fd) (B : Bt mg) (dT : Df P w K mg base 1 "_law_taken" ["_law_row", "_law_many"] (spTaken K)) (dP : Df P w K mg base 2 "_law_pick" ["_law_row", "_law_things"] (spPick K)) :
    FnOk P w K mg base CX0 3 f fd ["_law_row", "_law_most"] (spLWeb K) := by
  refine F.ok scLWeb (fun vs H Q E h => ?_) (fun cdv A outer s H vs Q E hr h => ?_)
  · obtain ⟨_, rfl, _⟩ := h
    rfl
  · obtain ⟨r, rfl, R, q⟩ := h
    have hr1 : Room 1 _ := hr.mono (by decide)
    refine ⟨_, pss_cons (ps_par (i := 2) (j := 3) (by rfl) scLWeb.nd rfl rfl (by decide) rfl rfl (pa_cons (pe_op op_add pe_int (pe_df dT hr1 (pa_cons (pv 0) (pa_cons (pv 1) pa_nil)))) (pa_cons (pe_df dT hr1 (pa_cons (pv 0) (pa_cons pe_int pa_nil))) pa_nil)) (by rfl))
      (pss_cons (ps_par (i := 4) (j := 5) (by rfl) scLWeb.nd rfl rfl (by decide) rfl rfl (pa_cons (pe_df dP hr (pa_cons (pv 0) (pa_cons (pe_lst (pa_cons pe_int (pa_cons pe_int (pa_cons pe_int pa_nil)))) pa_nil))) (pa_cons (pe_lst pa_nil) pa_nil)) (by rfl))
      (pss_cons (ps_for PassesOwn.never (by rfl) (pi_range1 (by rfl) B.range (pa_cons (pv 2) pa_nil)) (pg_name (i := 6) scLWeb.nd rfl (.inl rfl))
        (pss_one (ps_for PassesOwn.never (by rfl) (pi_range1 (by rfl) B.range (pa_cons (pv 2) pa_nil)) (pg_name (i := 7) scLWeb.nd rfl (.inl rfl))
          (pss_one (ps_if (PW.pt (pw_and (pt_cmpR op_ne (pv 6) (pv 7) (nomark _)) (pw_and1 (PW.pt (pw_or
              (PW.pt (pw_and (pt_cmpR op_lt (pv 3) pe_int (nomark _)) (pw_and1 (pt_cmpR op_eq (pe_df dT hr1 (pa_cons (pv 0) (pa_cons (pv 4) pa_nil))) pe_int (nomark _)))))
              (pw_or1 (PW.pt (pw_and (pt_cmpR op_eq (pv 3) pe_int (nomark _)) (pw_and (pt_cmpR op_lt (pv 6) (pv 7) (nomark _)) (pw_and1 (pt_cmpR op_eq (pe_df dT hr1 (pa_cons (pv 0) (pa_cons pe_int pa_nil))) pe_int (nomark _))))))))))))
            (pss_one (ps_expr (pe_bm PySem.F.plainAttrs_list PySem.F.slot_list_append PySem.F.type_list_append mt_append (pv 5) (pa_cons (pe_tup (pa_cons (pv 6) (pa_cons (pv 7) pa_nil))) pa_nil)))) pss_nil)))))
      (pss_cons (ps_if (pt_cmpR op_gt (pv 3) pe_int (nomark _))
        (pss_one (ps_set (i := 5) scLWeb.nd rfl (.inl rfl) (pe_op op_cat
          (pe_lc (own := [("_law_k", 6)]) (g := gName 6) (tt := tYes) (by rfl) scLWeb.nd (pi_range1 (by rfl) B.range (pa_cons (pe_op op_sub (pv 2) pe_int) pa_nil)) (blkOk_by (N := nLWeb) (sc := defScope sLWeb) (by decide +kernel))
            (fun _ _ _ _ _ => pg_name (i := 6) scLWeb.nd rfl (.inl rfl)) (fun _ _ _ _ _ => pts_nil) (fun _ _ _ _ _ => pe_tup (pa_cons (pv 6) (pa_cons (pe_op op_add (pv 6) pe_int) pa_nil))))
          (pe_ifExp (PW.pt (pw_and (pt_cmpR op_eq (pv 3) pe_int (nomark _)) (pw_and1 (pt_cmpR op_gt (pv 2) pe_int (nomark _))))) (pe_lst (pa_cons (pe_tup (pa_cons (pe_op op_sub (pv 2) pe_int) (pa_cons pe_int pa_nil))) pa_nil)) (pe_lst pa_nil))))) pss_nil)
      (pss_one (ps_ret (pe_tup (pa_cons (pv 2) (pa_cons (pe_tupleOf (by rfl) B.tuple (pe_callB (cr_sortSet (by rfl) (by have := hr.un; show (A.deeper _).units + 8 < _; omega)) (by rfl) B.sorted (by decide +kernel)
        (pa_cons (pe_callTy (cr_setOfT (by rfl) hr.units) (by rfl) B.set (by decide +kernel) (pa_cons (pv 5) pa_nil)) pa_nil))) pa_nil)))))))), ?_⟩
    -- many, way
    refine ⟨_, rfl, _, rfl, r, 4, rfl, R, by decide, by decide, fun H1 t1 x1 R1 lt1 => ⟨1, (t1 : Int), rfl, rfl, ?_⟩⟩
    refine ⟨_, rfl, r, 6, rfl, R1, by decide, by decide, fun H2 way x2 R2 lt2 => ⟨_, _, rfl, ?_⟩⟩
    obtain ⟨n, hn⟩ : ∃ n, 1 + t1 = n := ⟨_, rfl⟩
    have n1 : 1 ≤ n := by omega
    have n4 : n ≤ 4 := by omega
    have x12 := x1.trans x2
    -- thin, arrows
    refine ⟨_, rfl, (by show 3 ≤ sizeLine; decide), fun l3 hl3 => ?_⟩
    obtain ⟨or2, hr2⟩ := R2.there
    refine ⟨r, l3, _, rfl, R2.same (same_new hl3), upd_same, (ne_of_none hr2 hl3).symm, (by show 1 ≤ 3; decide), (by show 3 ≤ 1000; decide), fun H3 v x3 R3 hv => ?_⟩
    obtain ⟨th, rfl, th1, th2⟩ : ∃ th : Nat, v = iv th ∧ 1 ≤ th ∧ th ≤ 1000 := by
      rcases List.mem_cons.mp hv with z | hv
      · exact ⟨2, z, by decide, by decide⟩
      · rcases List.mem_cons.mp hv with z | hv
        · exact ⟨3, z, by decide, by decide⟩
        · exact ⟨5, List.mem_singleton.mp hv, by decide, by decide⟩
    have x13 : SameX r H H3 := (x12.trans (Same.x (same_new hl3))).trans x3
    refine ⟨Nat.zero_le _, fun pa hpa => ⟨_, _, rfl, ?_⟩⟩
    obtain ⟨or3, hr3⟩ := R3.there
    have par : pa ≠ r := (ne_of_none hr3 hpa).symm
    have s4 : Same H3 (upd H3 pa (.lst [])) := same_new hpa
    have D0 : Drw K H (upd H3 pa (.lst [])) r pa n [] := ⟨x13.trans (Same.x s4), R3.same s4, ⟨[], upd_same, AllAt.nil⟩, par, fun _ h => nomatch h⟩
    -- the loops
    refine ⟨_, rfl, (n : Int), (by rw [← hn]; rfl), by omega, by omega, ?_⟩
    refine for_range (lo := 0) (n := (n : Int).toNat) (fun i σ H5 => ∃ (es : List (Nat × Nat)) (x y : Option V), σ = [some (.ref r), some (iv 4), some (iv n), some (iv way), some (iv th), some (.ref pa), x, y] ∧ Drw K H H5 r pa n es ∧ es.length ≤ 4 * i)
      ⟨[], none, none, (by rw [← hn]; rfl), D0, Nat.zero_le _⟩ ?_ ?_
    · rintro i σ H5 hi ⟨es, x, y, rfl, D, le⟩
      have il : i < n := by omega
      rw [show V.int (0 + (i : Int)) = iv i by rw [Int.zero_add]; rfl]
      refine ⟨_, rfl, (n : Int), rfl, by omega, by omega, ?_⟩
      refine for_range (lo := 0) (n := (n : Int).toNat) (fun j σ H6 => ∃ (es : List (Nat × Nat)) (y : Option V), σ = [some (.ref r), some (iv 4), some (iv n), some (iv way), some (iv th), some (.ref pa), some (iv i), y] ∧ Drw K H H6 r pa n es ∧ es.length ≤ 4 * i + j)
        ⟨es, y, rfl, D, by omega⟩ ?_ ?_
      · rintro j σ H6 hj ⟨es, y, rfl, D, le⟩
        have jl : j < n := by omega
        rw [show V.int (0 + (j : Int)) = iv j by rw [Int.zero_add]; rfl]
        refine tIfS_by (fun b H7 => SameX r H6 H7 ∧ Row K H7 r ∧ (b = true → i ≠ j)) (fun Q' fin => ?_) ?_ ?_
        · refine ⟨_, rfl, _, rfl, rfl, _, rfl, ?_⟩
          by_cases hij : i = j
          · rw [decide_eq_true (show iv i = iv j by rw [hij])]
            exact iteF (fin false H6 ⟨SameX.refl r H6, D.row, fun z => nomatch z⟩)
          · rw [decide_eq_false (fun z => hij (iv_inj z))]
            refine iteT ?_
            refine ⟨_, rfl, _, _, rfl, rfl, _, rfl, ?_⟩
            by_cases h3 : (way : Int) < 3
            · rw [decide_eq_true h3]
              refine iteT ⟨_, rfl, _, rfl, r, th, rfl, D.row, th1, th2, fun H7 t7 x7 R7 _ => ⟨rfl, _, rfl, ?_⟩⟩
              cases hz : decide (iv t7 = V.int 0) with
              | true => exact iteT (fin true H7 ⟨x7, R7, fun _ => hij⟩)
              | false =>
                refine iteF ⟨_, rfl, rfl, _, rfl, ?_⟩
                rw [decide_eq_false (show ¬ iv way = V.int 3 from fun z => by have := V.int.inj z; omega)]
                exact iteF (fin false H7 ⟨x7, R7, fun z => nomatch z⟩)
            · rw [decide_eq_false h3]
              refine iteF (iteF ⟨_, rfl, rfl, _, rfl, ?_⟩)
              cases hw3 : decide (iv way = V.int 3) with
              | false => exact iteF (fin false H6 ⟨SameX.refl r H6, D.row, fun z => nomatch z⟩)
              | true =>
                refine iteT ⟨_, rfl, _, rfl, _, _, rfl, rfl, _, rfl, ?_⟩
                cases hlt : decide ((i : Int) < (j : Int)) with
                | false => exact iteF (fin false H6 ⟨SameX.refl r H6, D.row, fun z => nomatch z⟩)
                | true =>
                  refine iteT ⟨_, rfl, r, 2, rfl, D.row, by decide, by decide, fun H7 t7 x7 R7 _ => ⟨rfl, _, rfl, ?_⟩⟩
                  exact fin _ H7 ⟨x7, R7, fun _ => hij⟩
        · rintro H7 ⟨x7, R7, hij⟩
          have hij := hij rfl
          have D7 := D.draw x7 R7
          obtain ⟨ps, e7, al⟩ := D7.at_
          have lp : ps.length = es.length := by rw [al.1, List.length_map]
          -- arrows.append((k, j))
          refine ⟨_, rfl, .inl ⟨rfl, _, SqL.of e7⟩, _, rfl, _, rfl, (by show 2 ≤ sizeLine; decide), fun p np => ?_⟩
          have s8 : Same H7 (upd H7 p (.tup [iv i, iv j])) := same_new np
          have ppa : p ≠ pa := (ne_of_none e7 np).symm
          refine ⟨pa, _, _, rfl, rfl, s8 _ _ e7, Nat.lt_of_le_of_lt (by rw [List.length_map]; omega : _ ≤ 16) (by decide), ?_⟩
          have x8 : SameX r H (upd (upd H7 p (.tup [iv i, iv j])) pa (.lst (ps.map V.ref ++ [.ref p]))) := fun c o e n => by
            have c1 : c ≠ pa := fun z => by
              subst z
              have := x13 _ _ e n
              rw [hpa] at this
              cases this
            rw [upd_ne c1]
            exact s8 _ _ (D7.sx _ _ e n)
          refine ⟨es ++ [(i, j)], some (iv j), rfl, ⟨x8, ?_, ⟨ps ++ [p], by rw [upd_same, ref_snoc], ?_⟩, par, ?_⟩, by rw [List.length_append, List.length_singleton]; omega⟩
          · exact (R7.same s8).put (s8 _ _ e7) par
          · rw [List.map_append]
            refine AllAt.snoc (al.mono fun c _ xs g => ?_) ?_
            · show upd _ pa _ c = _
              rw [upd_ne (ne_of g e7 (fun z => nomatch z))]
              exact s8 _ _ g
            · show upd _ pa _ p = _
              rw [upd_ne ppa]
              exact upd_same
          · intro e he
            rcases List.mem_append.mp he with z | z
            · exact D.good e z
            · rw [List.mem_singleton.mp z]
              exact ⟨il, jl, hij⟩
        · rintro H7 ⟨x7, R7, _⟩
          exact ⟨es, some (iv j), rfl, D.draw x7 R7, by omega⟩
      · rintro σ H6 ⟨es, y, rfl, D, le⟩
        exact ⟨es, some (iv i), y, rfl, D, by omega⟩
    · rintro σ H5 ⟨es, x, y, rfl, D, le⟩
      dsimp only
      refine seq_by (fun σ' H' => ∃ (es : List (Nat × Nat)) (l : Addr) (x y : Option V), σ' = [some (.ref r), some (iv 4), some (iv n), some (iv way), some (iv th), some (.ref l), x, y] ∧ Drw K H H' r l n es ∧ es.length ≤ 16) (fun N fin => ?_) ?_
      · refine ⟨_, rfl, _, _, rfl, rfl, _, rfl, ?_⟩
        by_cases h3 : (3 : Int) < (way : Int)
        · rw [decide_eq_true h3]
          obtain ⟨or5, hr5⟩ := D.row.there
          refine iteT ⟨_, rfl, _, _, rfl, rfl, (n : Int) - 1, rfl, by omega, by omega, fun D1 hD1 => ?_⟩
          have en : ((n : Int) - 1).toNat = n - 1 := by omega
          refine lc_range (lo := 0) (n := ((n : Int) - 1).toNat) (fun m H6 => Same H5 H6 ∧ ∃ ps : List Addr, H6 D1 = some (.lst (ps.map V.ref)) ∧ AllAt DialAt H6 ps ((rowE m).map pr)) ⟨same_new hD1, [], upd_same, AllAt.nil⟩ ?_ ?_
          · rintro m H6 hm ⟨s6, ps, e6, al⟩
            rw [show V.int (0 + (m : Int)) = iv m by rw [Int.zero_add]; rfl]
            have lp : ps.length = m := by rw [al.1, List.length_map, rowE_len]
            refine ⟨rfl, _, rfl, _, rfl, _, _, rfl, rfl, (by show 2 ≤ sizeLine; decide), fun p np => ?_⟩
            have s7 : Same H6 (upd H6 p (.tup [iv m, iv (m + 1)])) := same_new np
            have pD : p ≠ D1 := (ne_of_none e6 np).symm
            refine ⟨_, s7 _ _ e6, small4 (n := n) (by rw [List.length_map]; omega) n4, fun c o e => ?_, ps ++ [p], ?_, ?_⟩
            · rw [upd_ne (ne_of_none e hD1)]
              exact s7 _ _ (s6 _ _ e)
            · rw [upd_same, ref_snoc]
            · rw [rowE_succ, List.map_append]
              refine AllAt.snoc (al.mono fun c _ xs g => ?_) ?_
              · show upd _ D1 _ c = _
                rw [upd_ne (ne_of g e6 (fun z => nomatch z))]
                exact s7 _ _ g
              · show upd _ D1 _ p = _
                rw [upd_ne pD]
                exact upd_same
          · rintro H6 ⟨s6, ps, e6, al⟩
            rw [en] at al
            refine tIf_by (fun v H7 => Same H6 H7 ∧ ∃ (l7 : Addr) (es2 : List (Nat × Nat)), v = .ref l7 ∧ TsAt H7 l7 (es2.map pr) ∧ GoodE n es2 ∧ es2.length ≤ 1) (fun Q' fin2 => ?_) ?_
            · have none_ : ∀ l, H6 l = none → Q' (.ref l) (upd H6 l (.lst [])) := fun l hl => fin2 _ _ ⟨same_new hl, l, [], rfl, ⟨[], upd_same, AllAt.nil⟩, (fun _ h => nomatch h), Nat.zero_le _⟩
              refine ⟨_, rfl, rfl, _, rfl, ?_⟩
              cases hw5 : decide (iv way = V.int 5) with
              | false => exact iteF (iteF ⟨Nat.zero_le _, none_⟩)
              | true =>
                refine iteT ⟨_, rfl, _, _, rfl, rfl, _, rfl, ?_⟩
                by_cases h1 : (1 : Int) < (n : Int)
                · rw [decide_eq_true h1]
                  refine iteT ⟨_, rfl, _, _, rfl, rfl, (by show 2 ≤ sizeLine; decide), fun p np => ⟨(by show 1 ≤ sizeLine; decide), fun l hl => ?_⟩⟩
                  have s7 : Same H6 (upd H6 p (.tup [iv (n - 1), iv 0])) := same_new np
                  have ee : (HO.tup [V.int ((n : Int) - 1), V.int 0]) = HO.tup [iv (n - 1), iv 0] := by
                    rw [show (n : Int) - 1 = ((n - 1 : Nat) : Int) by omega]
                    rfl
                  have e7 : upd H6 p (.tup [V.int ((n : Int) - 1), V.int 0]) = upd H6 p (.tup [iv (n - 1), iv 0]) := by rw [ee]
                  have hl' : upd H6 p (.tup [iv (n - 1), iv 0]) l = none := by rw [← e7]; exact hl
                  have pl : p ≠ l := fun z => by rw [z, upd_same] at hl'; cases hl'
                  show Q' (.ref l) (upd (upd H6 p (.tup [V.int ((n : Int) - 1), V.int 0])) l (.lst [.ref p]))
                  rw [e7]
                  refine fin2 _ _ ⟨s7.trans (same_new hl'), l, [(n - 1, 0)], rfl, ⟨[p], upd_same, AllAt.snoc (ls := []) (xss := []) AllAt.nil ?_⟩, ?_, Nat.le_refl _⟩
                  · show upd _ l _ p = _
                    rw [upd_ne pl]
                    exact upd_same
                  · intro e he
                    rw [List.mem_singleton.mp he]
                    exact ⟨by show n - 1 < n; omega, by show 0 < n; omega, by show n - 1 ≠ 0; omega⟩
                · rw [decide_eq_false h1]
                  exact iteF ⟨Nat.zero_le _, none_⟩
            · rintro v H7 ⟨s7, l7, es2, rfl, ⟨qs, e7, al7⟩, g7, len7⟩
              have lp : ps.length = n - 1 := by rw [al.1, List.length_map, rowE_len]
              have lq : qs.length = es2.length := by rw [al7.1, List.length_map]
              refine ⟨D1, l7, _, _, rfl, rfl, s7 _ _ e6, e7, Nat.le_trans (by rw [List.length_map, List.length_map]; omega : _ ≤ 8) (by decide), fun p np => ?_⟩
              have s8 : Same H7 (upd H7 p (.lst (ps.map V.ref ++ qs.map V.ref))) := same_new np
              have s58 := (s6.trans s7).trans s8
              have pr' : p ≠ r := (ne_of_none ((s6.trans s7) _ _ hr5) np).symm
              refine fin _ _ ⟨rowE (n - 1) ++ es2, p, x, y, rfl, ⟨D.sx.trans (Same.x s58), D.row.same s58, ⟨ps ++ qs, by rw [upd_same, List.map_append], ?_⟩, pr', ?_⟩, by rw [List.length_append, rowE_len]; omega⟩
              · rw [List.map_append]
                have a1 : AllAt DialAt (upd H7 p (.lst (ps.map V.ref ++ qs.map V.ref))) ps ((rowE (n - 1)).map pr) := al.mono fun c _ xs g => s8 _ _ (s7 _ _ g)
                have a2 : AllAt DialAt (upd H7 p (.lst (ps.map V.ref ++ qs.map V.ref))) qs (es2.map pr) := al7.mono fun c _ xs g => s8 _ _ g
                refine ⟨by rw [List.length_append, List.length_append, a1.1, a2.1], fun i c xs hc hx => ?_⟩
                by_cases hi : i < ps.length
                · rw [List.getElem?_append_left hi] at hc
                  rw [List.getElem?_append_left (by rw [← a1.1]; exact hi)] at hx
                  exact a1.2 i c xs hc hx
                · rw [List.getElem?_append_right (by omega)] at hc
                  rw [List.getElem?_append_right (by rw [← a1.1]; omega), ← a1.1] at hx
                  exact a2.2 _ c xs hc hx
              · intro e he
                rcases List.mem_append.mp he with z | z
                · exact rowE_good (by omega) e z
                · exact g7 e z
        · rw [decide_eq_false h3]
          exact iteF (fin _ _ ⟨es, pa, x, y, rfl, D, by omega⟩)
      · rintro σ' H6 ⟨es, l, x, y, rfl, D, le⟩
        obtain ⟨ps, e6, al⟩ := D.at_
        obtain ⟨L0, h0, l0, r0⟩ := rows_of_ts (n := n) (H := H6) (ps := ps) (es := es) (by rw [al.1, List.length_map]) (fun i p e a b => al.2 i p (pr e) a (by rw [List.getElem?_map, b]; rfl)) D.good
        have sq0 : ∀ {H' : Hp} {b : Rw}, RowE n H' b → SqT K H' b.1 (b.2.map V.int) := fun {H' b} ⟨e, e1, e2, _⟩ => by
          rw [e1]
          exact SqT.of e2
        refine ⟨_, rfl, _, rfl, l, L0, rfl, ?_, fun b hb => sq0 (r0 b hb), by omega, fun a L na sub all => ?_⟩
        · rw [← h0]
          exact SqL.of e6
        have s7 : Same H6 (upd H6 a (SetTO P w a L)) := same_new na
        have rowL : ∀ b ∈ L, RowE n (upd H6 a (SetTO P w a L)) b := fun b hb => by
          obtain ⟨e, e1, e2, e3⟩ := r0 b (sub b hb)
          exact ⟨e, e1, s7 _ _ e2, e3⟩
        refine ⟨a, L, rfl, upd_same, fun b hb => sq0 (rowL b hb), fun b hb z => ?_, fun L' p pm nd len pw np => ?_⟩
        · obtain ⟨e, e1, _⟩ := rowL b hb
          rw [e1] at z
          cases z
        refine .inl ⟨p, _, rfl, SqL.of upd_same, fun t nt => ⟨(by show 2 ≤ sizeLine; decide), fun a9 n9 => ?_⟩⟩
        have s8 := s7.trans (same_new (o := HO.lst (L'.map rwX)) np)
        have s9 := s8.trans (same_new (o := HO.tup (L'.map rwX)) nt)
        have s10 := s9.trans (same_new (o := HO.tup [iv n, V.ref t]) n9)
        have s7' : Same (upd H6 a (SetTO P w a L)) _ := ((same_new (o := HO.lst (L'.map rwX)) np).trans (same_new (o := HO.tup (L'.map rwX)) nt)).trans (same_new (o := HO.tup [iv n, V.ref t]) n9)
        obtain ⟨as, a1, a2, a3, a4, _⟩ := web_of_rows (n := n) (fun b hb => (by
          obtain ⟨e, e1, e2, e3⟩ := rowL b (pm.mem_iff.mp hb)
          exact ⟨e, e1, s7' _ _ e2, e3⟩ : RowE n _ b)) pw nd
        refine q _ a9 n as (D.sx.trans (Same.x s10)) (D.row.same s10) ⟨t, upd_same, L'.map (·.1), ?_, by rw [List.length_map, a1], fun i p' e hp' he => ?_⟩ ⟨n1, n4, a3, a4⟩
        · have : upd (upd (upd H6 a (SetTO P w a L)) p (.lst (L'.map rwX))) t (.tup (L'.map rwX)) t = some (.tup (L'.map rwX)) := upd_same
          rw [same_new n9 _ _ this, List.map_map]
          rfl
        · obtain ⟨b, hb, rfl⟩ := get_map hp'
          exact (a2 i b e hb he).2
end
end CaW

set_option Elab.async false
set_option linter.all false
set_option maxRecDepth 100000
/-! The law's draws: _law_dial, _law_small; a step of a dial: _law_step. -/
namespace CaW
open PySem L2 CaR
section
variable {P : Program} {w : World} {K : PySem.W.Frag} {mg : Str → Option Value} {base : Heap}
/-! ### _law_dial -/
abbrev nLDial : List Str := ["_law_row", "_law_web_here", "_law_hours", "_law_part", "_law_one", "_law_k"]
abbrev sLDial : Stmt := topS 34
theorem scLDial : FnScope nLDial ["_law_row", "_law_web_here", "_law_hours"] (defScope sLDial) := ⟨rfl, rfl, rfl, by decide +kernel, rfl, by decide +kernel, by decide +kernel⟩
def spLDial (K : PySem.W.Frag) : Sp := fun vs H Q _ => ∃ (r a : Addr) (n k : Nat) (as : Ca.Arrs), vs = [.ref r, .ref a, iv k] ∧ Row K H r ∧ WebAt H a n as ∧ (1 ≤ n ∧ n ≤ 4 ∧ 2 ≤ k ∧ k ≤ 24) ∧ ∀ (H' : Hp) (b : Addr) (d : List Nat), SameX r H H' → Row K H' r → DialAt H' b d → Ca.IsDial n k d → Q (.ref b) H'
theorem ok_ldial {f : Addr} {fd : FuncData} (F : Fun K "_law_dial" "_law_dial" sLDial f fd) (B : Bt mg) (dT : Df P w K mg base 1 "_law_taken" ["_law_row", "_law_many"] (spTaken K)) (dP : Df P w K mg base 2 "_law_pick" ["_law_row", "_law_things"] (spPick K)) :
    FnOk P w K mg base CX0 3 f fd ["_law_row", "_law_web_here", "_law_hours"] (spLDial K) := by
  refine F.ok scLDial (fun vs H Q E h => ?_) (fun cdv A outer s H vs Q E hr h => ?_)
  · obtain ⟨_, _, _, _, _, rfl, _⟩ := h
    rfl
  · obtain ⟨r, a, n, k, as, rfl, R, hw, ⟨n1, n4, k2, k24⟩, q⟩ := h
    obtain ⟨t, hwa, har⟩ := id hw
    obtain ⟨_, hr0⟩ := R.lst
    have ar : a ≠ r := ne_of hwa hr0 (fun z => nomatch z)
    have hr1 : Room 1 _ := hr.mono (by decide)
    refine ⟨_, pss_cons (ps_set (i := 3) scLDial.nd rfl (.inr rfl) (pe_df dP hr (pa_cons (pv 0) (pa_cons
        (pe_lc (own := [("_law_one", 4)]) (g := gName 4) (by rfl) scLDial.nd (pi_range2 (by rfl) B.range (pa_cons pe_int (pa_cons (pe_op op_add (pv 2) pe_int) pa_nil))) (blkOk_by (N := nLDial) (sc := defScope sLDial) (by decide +kernel))
          (fun _ _ _ _ _ => pg_name (i := 4) scLDial.nd rfl (.inl rfl))
          (fun _ _ _ _ _ => pts_one (pt_cmpR op_eq (pe_op op_mod (pe_callTy call_int1 (by rfl) B.int (by decide +kernel) (pa_cons (pv 2) pa_nil)) (pv 4)) pe_int (nomark _)))
          (fun _ _ _ _ _ => pv 4)) pa_nil))))
      (pss_cons (ps_set (i := 3) scLDial.nd rfl (.inr rfl) (pe_ifExp (pt_cmpR op_eq (pe_df dT hr1 (pa_cons (pv 0) (pa_cons pe_int pa_nil))) pe_int (nomark _)) (pv 3) pe_int))
      (pss_one (ps_ret (pe_tupleOf (by rfl) B.tuple
        (pe_lc (own := [("_law_k", 5)]) (g := gName 5) (tt := tYes) (by rfl) scLDial.nd (pi_range1 (by rfl) B.range (pa_cons (pe_ix ix_tup (pv 1) pe_int (fun _ _ => rfl)) pa_nil)) (blkOk_by (N := nLDial) (sc := defScope sLDial) (by decide +kernel))
          (fun _ _ _ _ _ => pg_name (i := 5) scLDial.nd rfl (.inl rfl)) (fun _ _ _ _ _ => pts_nil)
          (fun _ _ _ _ _ => pe_op op_mod (pe_callTy call_int1 (by rfl) B.int (by decide +kernel) (pa_cons (pe_op op_mul (pv 3) (pe_df dT hr1 (pa_cons (pv 0) (pa_cons (pv 2) pa_nil)))) pa_nil)) (pv 2))))))), ?_⟩
    -- the divisors
    refine ⟨_, rfl, _, rfl, _, _, rfl, rfl, 1, (k : Int) + 1, rfl, ⟨by omega, by omega, by omega, by omega⟩, fun D hD => ?_⟩
    have Dr : D ≠ r := (ne_of_none hr0 hD).symm
    refine lc_range (lo := 1) (n := ((k : Int) + 1 - 1).toNat) (fun i H1 => Same H H1 ∧ ∃ xs : List Nat, H1 D = some (.lst (xs.map iv)) ∧ xs.length ≤ i ∧ (1 ≤ i → 1 ≤ xs.length) ∧ ∀ x ∈ xs, 1 ≤ x ∧ x ≤ k) ⟨same_new hD, [], upd_same, Nat.zero_le _, (fun z => by omega), fun _ z => nomatch z⟩ ?_ ?_
    · rintro i H1 hi ⟨s1, xs, e1, len, pos, bd⟩
      have il : i < k := by omega
      rw [show V.int (1 + (i : Int)) = iv (1 + i) by unfold iv; rw [Int.natCast_add]; rfl]
      refine ⟨rfl, ?_⟩
      refine ⟨_, rfl, .inl ⟨_, rfl, _, rfl, _, _, rfl, rfl, by omega, rfl, _, rfl, ?_⟩⟩
      cases hz : decide (V.int ((k : Int) % ((1 + i : Nat) : Int)) = V.int 0) with
      | true =>
        refine iteT ⟨_, rfl, _, e1, ?_, fun c o e => ?_, xs ++ [1 + i], ?_, ?_, ?_, ?_⟩
        · exact Nat.lt_of_le_of_lt (by rw [List.length_map]; omega : _ ≤ 24) (by decide)
        · rw [upd_ne (ne_of_none e hD)]
          exact s1 _ _ e
        · rw [upd_same, List.map_append]; rfl
        · rw [List.length_append, List.length_singleton]; omega
        · intro _; rw [List.length_append, List.length_singleton]; omega
        · intro x hx
          rcases List.mem_append.mp hx with z | z
          · exact bd x z
          · rw [List.mem_singleton.mp z]; exact ⟨by omega, by omega⟩
      | false =>
        refine iteF ⟨s1, xs, e1, by omega, fun _ => ?_, bd⟩
        by_cases i0 : i = 0
        · subst i0
          refine absurd ?_ (of_decide_eq_false hz)
          have : ((k : Int) % ((1 + 0 : Nat) : Int)) = 0 := Int.emod_one _
          rw [this]
        · exact pos (by omega)
    · rintro H1 ⟨s1, xs, e1, len, pos, bd⟩
      refine ⟨r, D, _, rfl, R.same s1, e1, Dr, ?_, ?_, fun H2 v x2 R2 hv => ?_⟩
      · rw [List.length_map]; exact pos (by omega)
      · rw [List.length_map]; omega
      obtain ⟨p0, hp0, rfl⟩ := List.mem_map.mp hv
      obtain ⟨b1, b2⟩ := bd p0 hp0
      have x02 : SameX r H H2 := (Same.x s1).trans x2
      dsimp only [gName, tSeq, tAsg]
      refine tIf_by (fun v H3 => ∃ pp : Nat, v = iv pp ∧ pp ≤ 24 ∧ SameX r H H3 ∧ Row K H3 r) (fun Q' fin => ?_) ?_
      · refine ⟨_, rfl, r, 2, rfl, R2, by decide, by decide, fun H3 t3 x3 R3 lt3 => ⟨rfl, _, rfl, ?_⟩⟩
        cases hz : decide (iv t3 = V.int 0) with
        | true => exact iteT ⟨_, rfl, fin _ _ ⟨p0, rfl, by omega, x02.trans x3, R3⟩⟩
        | false => exact iteF (fin _ _ ⟨1, rfl, by decide, x02.trans x3, R3⟩)
      · rintro v H3 ⟨pp, rfl, hpp, x3, R3⟩
        obtain ⟨or3, hr3⟩ := R3.there
        refine ⟨_, rfl, a, _, _, iv n, rfl, rfl, SqT.of (x3 _ _ hwa ar), atI_nat (j := 0) rfl, (n : Int), rfl, (bnd n4).1, (bnd n4).2, fun D2 hD2 => ?_⟩
        have D2r : D2 ≠ r := (ne_of_none hr3 hD2).symm
        have up2 : ∀ H' o, SameX r H H' → SameX r H (upd H' D2 o) := fun H' o sx c u e nn => by
          have : D2 ≠ c := fun z => by subst z; have := x3 _ _ e nn; rw [hD2] at this; cases this
          rw [upd_ne this.symm]
          exact sx _ _ e nn
        refine lc_range (lo := 0) (n := (n : Int).toNat) (fun i H4 => SameX r H H4 ∧ Row K H4 r ∧ ∃ xs : List Nat, H4 D2 = some (.lst (xs.map iv)) ∧ xs.length = i ∧ ∀ x ∈ xs, x < k) ⟨up2 _ _ x3, R3.same (same_new hD2), [], upd_same, rfl, fun _ z => nomatch z⟩ ?_ ?_
        · rintro i H4 hi ⟨x4, R4, ys, e4, len4, bd4⟩
          refine ⟨rfl, ?_⟩
          refine ⟨_, rfl, _, rfl, _, rfl, r, k, rfl, R4, by omega, by omega, fun H5 t5 x5 R5 lt5 => ?_⟩
          refine ⟨_, _, rfl, rfl, .inr (small64 (by omega)), .inl ⟨_, rfl, _, rfl, _, _, rfl, rfl, by omega, ?_⟩⟩
          have e5 := x5 _ _ e4 D2r
          refine ⟨_, e5, small4 (n := n) (by rw [List.length_map]; omega) n4, up2 _ _ (x4.trans x5), R5.put e5 D2r, ys ++ [pp * t5 % k], ?_, ?_, ?_⟩
          · rw [upd_same, nat_mul]
            show some (HO.lst (List.map iv ys ++ [V.int (((pp * t5 : Nat) : Int) % (k : Int))])) = _
            rw [emod_nat, List.map_append]; rfl
          · rw [List.length_append, List.length_singleton]; omega
          · intro x hx
            rcases List.mem_append.mp hx with z | z
            · exact bd4 x z
            · rw [List.mem_singleton.mp z]; exact Nat.mod_lt _ (by omega)
        · rintro H4 ⟨x4, R4, ys, e4, len4, bd4⟩
          refine .inl ⟨D2, _, rfl, SqL.of e4, fun pt npt => ?_⟩
          exact q _ pt ys (x4.trans (Same.x (same_new npt))) (R4.same (same_new npt)) upd_same ⟨by omega, bd4⟩
/-! ### _law_small -/
abbrev sLSmall : Stmt := topS 35
theorem scLSmall : FnScope ["_law_row", "_law_web_here", "_law_hours"] ["_law_row"] (defScope sLSmall) := ⟨rfl, rfl, rfl, by decide +kernel, rfl, by decide +kernel, by decide +kernel⟩
def spLSmall (K : PySem.W.Frag) : Sp := fun vs H Q _ => ∃ r : Addr, vs = [.ref r] ∧ Row K H r ∧ ∀ (H' : Hp) (p a b : Addr) (n k : Nat) (as : Ca.Arrs) (d : List Nat), SameX r H H' → Row K H' r → Inp H' a b n k as d → k ≤ Ca.most n → H' p = some (.tup [.ref a, iv k, .ref b]) → Q (.ref p) H'
theorem ok_lsmall {f : Addr} {fd : FuncData} (F : Fun K "_law_small" "_law_small" sLSmall f fd) (dT : Df P w K mg base 1 "_law_taken" ["_law_row", "_law_many"] (spTaken K)) (dW : Df P w K mg base 3 "_law_web" ["_law_row", "_law_most"] (spLWeb K)) (dD : Df P w K mg base 3 "_law_dial" ["_law_row", "_law_web_here", "_law_hours"] (spLDial K)) :
    FnOk P w K mg base CX0 4 f fd ["_law_row"] (spLSmall K) := by
  refine F.ok scLSmall (fun vs H Q E h => ?_) (fun cdv A outer s H vs Q E hr h => ?_)
  · obtain ⟨_, rfl, _⟩ := h
    rfl
  · obtain ⟨r, rfl, R, q⟩ := h
    refine ⟨_, pss_cons (ps_set (i := 1) scLSmall.nd rfl (.inl rfl) (pe_df dW hr (pa_cons (pv 0) (pa_cons pe_int pa_nil))))
      (pss_cons (ps_set (i := 2) scLSmall.nd rfl (.inl rfl) (pe_op op_add pe_int (pe_df dT (hr.mono (by decide)) (pa_cons (pv 0) (pa_cons (pe_ix ix_list (pe_lst (pa_cons pe_int (pa_cons pe_int (pa_cons pe_int (pa_cons pe_int pa_nil))))) (pe_op op_sub (pe_ix ix_tup (pv 1) pe_int (fun _ _ => rfl)) pe_int) (fun _ _ => rfl)) pa_nil)))))
      (pss_one (ps_ret (pe_tup (pa_cons (pv 1) (pa_cons (pv 2) (pa_cons (pe_df dD hr (pa_cons (pv 0) (pa_cons (pv 1) (pa_cons (pv 2) pa_nil)))) pa_nil))))))), ?_⟩
    refine ⟨_, rfl, r, rfl, R, fun H1 a n as x1 R1 hw W => ?_⟩
    obtain ⟨t, hwa, har⟩ := id hw
    obtain ⟨_, hr1⟩ := R1.lst
    have ar : a ≠ r := ne_of hwa hr1 (fun z => nomatch z)
    have n1 := W.n1
    have n4 := W.n4
    refine ⟨_, rfl, (by show 4 ≤ sizeLine; decide), fun l hl => ?_⟩
    have s2 : Same H1 (upd H1 l (.lst [.int 23, .int 11, .int 6, .int 4])) := same_new hl
    obtain ⟨m, hm, m1, m23, mm⟩ : ∃ m : Nat, ([V.int 23, .int 11, .int 6, .int 4] : List V)[n - 1]? = some (iv m) ∧ 1 ≤ m ∧ m ≤ 23 ∧ m + 1 = Ca.most n := by
      have : n = 1 ∨ n = 2 ∨ n = 3 ∨ n = 4 := by omega
      rcases this with rfl | rfl | rfl | rfl
      · exact ⟨23, rfl, by decide, by decide, rfl⟩
      · exact ⟨11, rfl, by decide, by decide, rfl⟩
      · exact ⟨6, rfl, by decide, by decide, rfl⟩
      · exact ⟨4, rfl, by decide, by decide, rfl⟩
    refine ⟨_, rfl, a, _, _, iv n, rfl, rfl, SqT.of (s2 _ _ hwa), atI_nat (j := 0) rfl, _, _, rfl, rfl, l, _, _, iv m, rfl, rfl, SqL.of upd_same, at_of (j := n - 1) (by omega) hm, ?_⟩
    refine ⟨r, m, rfl, R1.same s2, m1, by omega, fun H3 t3 x3 R3 lt3 => ⟨_, _, rfl, rfl, ?_⟩⟩
    have x13 : SameX r H1 H3 := (Same.x s2).trans x3
    dsimp only
    rw [show V.int (2 + (t3 : Int)) = iv (2 + t3) by unfold iv; rw [Int.natCast_add]; rfl]
    have xw : ∀ H', SameX r H1 H' → WebAt H' a n as := fun H' sx => by
      obtain ⟨ps, p1, p2, p3⟩ := har
      exact ⟨t, sx _ _ hwa ar, ps, sx _ _ p1 (ne_of p1 hr1 (fun z => nomatch z)), p2, fun i p e u v => sx _ _ (p3 i p e u v) (ne_of (p3 i p e u v) hr1 (fun z => nomatch z))⟩
    refine ⟨_, rfl, _, rfl, _, rfl, _, rfl, _, rfl, r, a, n, 2 + t3, as, rfl, R3, xw _ x13, ⟨n1, n4, by omega, by omega⟩, fun H4 b d x4 R4 hb hd => ?_⟩
    refine ⟨(by show 3 ≤ sizeLine; decide), fun p np => ?_⟩
    have s5 : Same H4 (upd H4 p (.tup [.ref a, iv (2 + t3), .ref b])) := same_new np
    exact q _ p a b n (2 + t3) as d (((x1.trans x13).trans x4).trans (Same.x s5)) (R4.same s5) ⟨W, by omega, by omega, (xw _ (x13.trans x4)).same s5, hb.same s5, hd⟩ (by omega) upd_same
/-! ### _law_step -/
theorem cat_by {H : Hp} {a b : Addr} {xs ys : List V} {Q : VK} (ha : H a = some (.tup xs)) (hb : H b = some (.tup ys)) (hl : xs.length + ys.length ≤ sizeLine) (q : ∀ c H', Same H H' → H' c = some (.tup (xs ++ ys)) → Q (.ref c) H') : rCatA K (.ref a) (.ref b) H Q := by
  refine ⟨a, b, xs, ys, rfl, rfl, SqT.of ha, SqT.of hb, hl, fun e => ?_, fun _ e => ?_, fun _ _ p np => ?_⟩
  · exact q b H (Same.refl H) (by rw [hb, e]; rfl)
  · exact q a H (Same.refl H) (by rw [ha, e, List.append_nil])
  · exact q p _ (same_new np) upd_same
abbrev sLStep : Stmt := topS 36
theorem scLStep : FnScope ["_law_hours", "_law_dial_here", "_law_arrow"] ["_law_hours", "_law_dial_here", "_law_arrow"] (defScope sLStep) := ⟨rfl, rfl, rfl, by decide +kernel, rfl, by decide +kernel, by decide +kernel⟩
def spLStep : Sp := fun vs H Q _ => ∃ (b p : Addr) (n k : Nat) (d : List Nat) (e : Nat × Nat), vs = [iv k, .ref b, .ref p] ∧ DialAt H b d ∧ ArAt H p e ∧ Ca.IsDial n k d ∧ (e.1 < n ∧ e.2 < n ∧ n ≤ 4 ∧ 2 ≤ k ∧ k ≤ 24) ∧ ∀ (H' : Hp) (c : Addr), Same H H' → DialAt H' c (Ca.stp k d e) → Q (.ref c) H'
theorem ok_lstep {f : Addr} {fd : FuncData} (F : Fun K "_law_step" "_law_step" sLStep f fd) (B : Bt mg) : FnOk P w K mg base CX0 1 f fd ["_law_hours", "_law_dial_here", "_law_arrow"] spLStep := by
  refine F.ok scLStep (fun vs H Q E h => ?_) (fun cdv A outer s H vs Q E hr h => ?_)
  · obtain ⟨_, _, _, _, _, _, rfl, _⟩ := h
    rfl
  · obtain ⟨b, p, n, k, d, e, rfl, hb, hp, hd, ⟨e1, e2, n4, k2, k24⟩, q⟩ := h
    have hb' : H b = some (.tup (d.map iv)) := hb
    have hp' : H p = some (.tup [iv e.1, iv e.2]) := hp
    have dl := hd.len
    refine ⟨_, pss_one (ps_ret (pe_op op_catA (pe_op op_catA (pe_slice sl_tup (pv 1) po_none (po_some (pe_ix ix_tup (pv 2) pe_int (fun _ _ => rfl))))
        (pe_tup (pa_cons (pe_op op_mod (pe_callTy call_int1 (by rfl) B.int (by decide +kernel) (pa_cons (pe_op op_add (pe_ix ix_tup (pv 1) (pe_ix ix_tup (pv 2) pe_int (fun _ _ => rfl)) (fun _ _ => rfl)) (pe_ix ix_tup (pv 1) (pe_ix ix_tup (pv 2) pe_int (fun _ _ => rfl)) (fun _ _ => rfl))) pa_nil)) (pv 0)) pa_nil)))
        (pe_slice sl_tup (pv 1) (po_some (pe_op op_add (pe_ix ix_tup (pv 2) pe_int (fun _ _ => rfl)) pe_int)) po_none))), ?_⟩
    have g2 : atI [iv e.1, iv e.2] 1 = some (iv e.2) := atI_nat (j := 1) rfl
    have g1 : atI [iv e.1, iv e.2] 0 = some (iv e.1) := atI_nat (j := 0) rfl
    refine ⟨_, rfl, _, rfl, p, _, _, iv e.2, rfl, rfl, SqT.of hp', g2, (e.2 : Int), rfl, b, _, rfl, SqT.of hb', ?_, fun p1 np1 => ?_⟩
    · rw [HT.sIx_nat, List.length_map]
      omega
    have s1 : Same H (upd H p1 (.tup (cutV (d.map iv) none (some (e.2 : Int))))) := same_new np1
    have hb1 := s1 _ _ hb'
    have hp1 := s1 _ _ hp'
    have i2 : e.2 < d.length := by omega
    have i1 : e.1 < d.length := by omega
    refine ⟨_, rfl, _, rfl, p, _, _, iv e.2, rfl, rfl, SqT.of hp1, g2, b, _, _, iv (Ca.val d e.2), rfl, rfl, SqT.of hb1, dial_at i2, _, rfl, _, rfl, p, _, _, iv e.1, rfl, rfl, SqT.of hp1, g1, b, _, _, iv (Ca.val d e.1), rfl, rfl, SqT.of hb1, dial_at i1, _, _, rfl, rfl, .inl ⟨_, rfl, _, rfl, _, _, rfl, rfl, by omega, (by show 1 ≤ sizeLine; decide), fun p2 np2 => ?_⟩⟩
    have ev : HO.tup [(fun i j => V.int (i % j)) ((Ca.val d e.2 : Int) + (Ca.val d e.1 : Int)) (k : Int)] = HO.tup [iv ((Ca.val d e.2 + Ca.val d e.1) % k)] := by
      show HO.tup [V.int (((Ca.val d e.2 : Int) + (Ca.val d e.1 : Int)) % (k : Int))] = _
      rw [← Int.natCast_add, emod_nat]
      rfl
    dsimp only at ev ⊢
    rw [ev]
    have s2 := s1.trans (same_new (o := .tup [iv ((Ca.val d e.2 + Ca.val d e.1) % k)]) np2)
    have n12 : p1 ≠ p2 := fun z => by rw [← z, upd_same] at np2; cases np2
    have ec : cutV (d.map iv) none (some (e.2 : Int)) = (d.take e.2).map iv := by
      unfold cutV
      rw [HT.sIx_nat, HT.sIx_none, List.length_map, Nat.min_eq_left (Nat.le_of_lt i2), List.drop_zero, Nat.sub_zero, List.map_take]
    refine cat_by (xs := (d.take e.2).map iv) (ys := [iv ((Ca.val d e.2 + Ca.val d e.1) % k)]) ?_ upd_same ?_ fun p3 H3 s3 h3 => ?_
    · rw [upd_ne n12, upd_same, ec]
    · refine Nat.le_trans ?_ (show 8 ≤ sizeLine by decide)
      rw [List.length_map, List.length_take]
      show _ + 1 ≤ 8
      omega
    have s13 := s2.trans s3
    refine ⟨_, rfl, _, rfl, p, _, _, iv e.2, rfl, rfl, SqT.of (s13 _ _ hp'), g2, _, _, rfl, rfl, (e.2 : Int) + 1, rfl, b, _, rfl, SqT.of (s13 _ _ hb'), ?_, fun p4 np4 => ?_⟩
    · rw [show (e.2 : Int) + 1 = ((e.2 + 1 : Nat) : Int) from rfl, HT.sIx_nat, List.length_map]
      omega
    have s4 := s13.trans (same_new (o := .tup (cutV (d.map iv) (some ((e.2 : Int) + 1)) none)) np4)
    have ec2 : cutV (d.map iv) (some ((e.2 : Int) + 1)) none = (d.drop (e.2 + 1)).map iv := by
      unfold cutV
      rw [show (e.2 : Int) + 1 = ((e.2 + 1 : Nat) : Int) from rfl, HT.sIx_nat, HT.sIx_none, List.length_map, Nat.min_eq_left (Nat.succ_le_of_lt i2), List.map_drop]
      refine List.take_of_length_le ?_
      rw [List.length_drop, List.length_map]
      exact Nat.le_refl _
    refine cat_by (xs := (d.take e.2).map iv ++ [iv ((Ca.val d e.2 + Ca.val d e.1) % k)]) (ys := (d.drop (e.2 + 1)).map iv) (same_new np4 _ _ h3) (by rw [← ec2]; exact upd_same) ?_ fun c H5 s5 h5 => ?_
    · refine Nat.le_trans ?_ (show 12 ≤ sizeLine by decide)
      rw [List.length_append, List.length_map, List.length_take, List.length_map, List.length_drop]
      show _ + 1 + _ ≤ 12
      omega
    refine q _ c (s4.trans s5) ?_
    show H5 c = some (.tup ((Ca.stp k d e).map iv))
    rw [h5]
    unfold Ca.stp
    rw [List.set_eq_take_append_cons_drop, if_pos i2, List.map_append, List.map_cons, List.append_assoc]
    rfl
end
end CaW

set_option Elab.async false
set_option linter.all false
set_option maxRecDepth 100000
/-! All dials that can be reached: _law_from. -/
namespace Ca
/-- all steps from e are found -/
def Cl (k : Nat) (as : Arrs) (F : List (List Nat)) (e : List Nat) : Prop := ∀ a ∈ as, stp k e a ∈ F
theorem Cl.mono {k : Nat} {as : Arrs} {F G : List (List Nat)} {e : List Nat} (h : Cl k as F e) (s : ∀ x ∈ F, x ∈ G) : Cl k as G e := fun a m => s _ (h a m)
structure Bfs (k : Nat) (as : Arrs) (d : List Nat) (F : List (List Nat)) : Prop where
  nd : F.Nodup
  rea : ∀ e ∈ F, Rea k as d e
  one : d ∈ F
theorem Bfs.done {k : Nat} {as : Arrs} {d : List Nat} {F : List (List Nat)} (B : Bfs k as d F) (h : ∀ e ∈ F, Cl k as F e) (e : List Nat) : e ∈ F ↔ Rea k as d e := by
  refine ⟨B.rea e, fun r => ?_⟩
  induction r with
  | refl => exact B.one
  | step _ m ih => exact h _ ih _ m
theorem Bfs.len {n k : Nat} {as : Arrs} {d : List Nat} {F : List (List Nat)} (B : Bfs k as d F) (hk : 0 < k) (hd : IsDial n k d) : F.length ≤ k ^ n := by
  rw [← tuples_len k n]
  exact len_le F _ B.nd fun e he => mem_tuples.mpr ⟨((B.rea e he).dial hk hd).len, ((B.rea e he).dial hk hd).lt⟩
theorem Bfs.more {k : Nat} {as : Arrs} {d e : List Nat} {a : Nat × Nat} {F : List (List Nat)} (B : Bfs k as d F) (he : e ∈ F) (m : a ∈ as) (no : stp k e a ∉ F) : Bfs k as d (F ++ [stp k e a]) where
  nd := by
    rw [List.nodup_append]
    exact ⟨B.nd, by simp, fun x hx y hy z => no (by rw [← List.mem_singleton.mp hy, ← z]; exact hx)⟩
  rea := fun x hx => by
    rcases List.mem_append.mp hx with q | q
    · exact B.rea x q
    · rw [List.mem_singleton.mp q]
      exact .step (B.rea e he) m
  one := List.mem_append_left _ B.one
theorem pow_lt {n k : Nat} (hk : k ≤ 24) (hn : n ≤ 4) : k ^ n ≤ 331776 := by
  refine Nat.le_trans (Nat.pow_le_pow_left hk n) ?_
  exact Nat.le_trans (Nat.pow_le_pow_right (by decide) hn) (by decide)
end Ca
namespace CaW
open PySem L2 CaR
def kD (d : List Nat) : List L2.Key := d.map fun (x : Nat) => kI (x : Int)
theorem kD_kV (d : List Nat) : (kD d).map kV = d.map iv := by
  unfold kD
  rw [List.map_map]
  rfl
theorem kD_inj : ∀ {d e : List Nat}, kD d = kD e → d = e
  | [], [], _ => rfl
  | [], _ :: _, h => by cases h
  | _ :: _, [], h => by cases h
  | x :: d, y :: e, h => by
    obtain ⟨h1, h2⟩ := List.cons.inj h
    have h3 : ((x : Nat) : Int) = (y : Int) := Sum.inl.inj h1
    rw [kD_inj h2, show x = y by omega]
theorem valV_found : ∀ {kvs : List (List L2.Key × V)} {F : List (List Nat)} (e : List Nat), kvs.map (·.1) = F.map kD → (valV kvs (kD e)).isSome = decide (e ∈ F)
  | [], [], e, _ => by simp [valV]
  | [], _ :: _, e, h => by simp at h
  | _ :: _, [], e, h => by simp at h
  | p :: kvs, x :: F, e, h => by
    rw [List.map_cons, List.map_cons] at h
    obtain ⟨h1, h2⟩ := List.cons.inj h
    by_cases c : x = e
    · subst c
      rw [valV_pos h1]
      simp
    · have n1 : ¬ p.1 = kD e := fun z => c (kD_inj (h1.symm.trans z))
      have n2 : ¬ e = x := fun z => c z.symm
      rw [valV_neg n1, valV_found e h2]
      simp [n2]
theorem valV_mem {kvs : List (List L2.Key × V)} {k : List L2.Key} {v : V} (h : valV kvs k = some v) : ∃ p ∈ kvs, p.2 = v := by
  unfold valV at h
  cases e : kvs.find? fun kv => decide (kv.1 = k) with
  | none => rw [e] at h; cases h
  | some p => rw [e] at h; exact ⟨p, List.mem_of_find?_eq_some e, Option.some.inj h⟩
/-- the dict of found dials -/
def FoundAt (H : Hp) (D : Addr) (F : List (List Nat)) : Prop := ∃ kvs : List (List L2.Key × V), H D = some (.dT kvs) ∧ kvs.map (·.1) = F.map kD ∧ ∀ p ∈ kvs, ∃ i, p.2 = V.int i
theorem FoundAt.same {H H' : Hp} {D : Addr} {F : List (List Nat)} (h : FoundAt H D F) (s : Same H H') : FoundAt H' D F := by
  obtain ⟨kvs, h1, h2⟩ := h
  exact ⟨kvs, s _ _ h1, h2⟩
theorem FoundAt.len {kvs : List (List L2.Key × V)} {F : List (List Nat)} (h : kvs.map (·.1) = F.map kD) : kvs.length = F.length := by
  have := congrArg List.length h
  simpa using this
section
variable {P : Program} {w : World} {K : PySem.W.Frag} {mg : Str → Option Value} {base : Heap}
abbrev nLFrom : List Str := ["_law_web_here", "_law_hours", "_law_dial_here", "_law_found", "_law_rows", "_law_more", "_law_here", "_law_arrow", "_law_there"]
abbrev sLFrom : Stmt := topS 37
theorem scLFrom : FnScope nLFrom ["_law_web_here", "_law_hours", "_law_dial_here"] (defScope sLFrom) := ⟨rfl, rfl, rfl, by decide +kernel, rfl, by decide +kernel, by decide +kernel⟩
def spLFrom : Sp := fun vs H Q _ => ∃ (a b : Addr) (n k : Nat) (as : Ca.Arrs) (d : List Nat), vs = [.ref a, iv k, .ref b] ∧ Inp H a b n k as d ∧ ∀ (H' : Hp) (p : Addr) (F : List (List Nat)), Same H H' → FoundAt H' p F → F.Nodup → (∀ e, e ∈ F ↔ Ca.Rea k as d e) → Q (.ref p) H'
/-- before a turn of while -/
structure OutS (H : Hp) (D : Addr) (n k : Nat) (as : Ca.Arrs) (d : List Nat) (l : Addr) (F R : List (List Nat)) (H1 : Hp) : Prop where
  s : Same H H1
  f : FoundAt H1 D F
  b : Ca.Bfs k as d F
  r : TsAt H1 l R
  sub : ∀ e ∈ R, e ∈ F
  cl : ∀ e ∈ F, e ∈ R ∨ Ca.Cl k as F e
/-- within it: rows at l, the new ones at pm -/
structure MidS (H : Hp) (D : Addr) (k : Nat) (as : Ca.Arrs) (d : List Nat) (l pm : Addr) (rs : List Addr) (R : List (List Nat)) (f0 : Nat) (i : Nat) (F M : List (List Nat)) (H1 : Hp) : Prop where
  s : Same H H1
  f : FoundAt H1 D F
  b : Ca.Bfs k as d F
  r : H1 l = some (.lst (rs.map V.ref))
  ra : AllAt DialAt H1 rs R
  m : TsAt H1 pm M
  subR : ∀ e ∈ R, e ∈ F
  subM : ∀ e ∈ M, e ∈ F
  cl : ∀ e ∈ F, e ∈ R.drop i ∨ e ∈ M ∨ Ca.Cl k as F e
  len : F.length = f0 + M.length
/-- in the turn for e0, behind j arrows -/
structure InS (H : Hp) (D : Addr) (k : Nat) (as : Ca.Arrs) (d : List Nat) (l pm : Addr) (rs : List Addr) (R : List (List Nat)) (f0 : Nat) (i : Nat) (e0 : List Nat) (j : Nat) (F M : List (List Nat)) (H1 : Hp) : Prop where
  s : Same H H1
  f : FoundAt H1 D F
  b : Ca.Bfs k as d F
  r : H1 l = some (.lst (rs.map V.ref))
  ra : AllAt DialAt H1 rs R
  m : TsAt H1 pm M
  subR : ∀ e ∈ R, e ∈ F
  subM : ∀ e ∈ M, e ∈ F
  cl : ∀ e ∈ F, e ∈ R.drop (i + 1) ∨ e ∈ M ∨ e = e0 ∨ Ca.Cl k as F e
  seen : ∀ a ∈ as.take j, Ca.stp k e0 a ∈ F
  len : F.length = f0 + M.length
theorem isEmpty_dT (R : List (List Nat)) : (dT R).isEmpty = R.isEmpty := by cases R <;> rfl
theorem take_mem {α : Type} {l : List α} {i : Nat} {x y : α} (h : l[i]? = some x) (m : y ∈ l.take (i + 1)) : y ∈ l.take i ∨ y = x := by
  rw [take_snoc h] at m
  rcases List.mem_append.mp m with z | z
  · exact .inl z
  · exact .inr (List.mem_singleton.mp z)
theorem drop_mem {α : Type} {l : List α} {i : Nat} {x y : α} (h : l[i]? = some x) (m : y ∈ l.drop i) : y ∈ l.drop (i + 1) ∨ y = x := by
  obtain ⟨il, e⟩ := List.getElem?_eq_some_iff.mp h
  rw [List.drop_eq_getElem_cons il, e] at m
  rcases List.mem_cons.mp m with z | z
  · exact .inr z
  · exact .inl z
theorem ok_lfrom {f : Addr} {fd : FuncData} (Fu : Fun K "_law_from" "_law_from" sLFrom f fd) (dS : Df P w K mg base 1 "_law_step" ["_law_hours", "_law_dial_here", "_law_arrow"] spLStep) :
    FnOk P w K mg base CX0 2 f fd ["_law_web_here", "_law_hours", "_law_dial_here"] spLFrom := by
  refine Fu.ok scLFrom (fun vs H Q E h => ?_) (fun cdv A outer s H vs Q E hr h => ?_)
  · obtain ⟨_, _, _, _, _, _, rfl, _⟩ := h
    rfl
  · obtain ⟨a, b, n, k, as, d, rfl, I, q⟩ := h
    obtain ⟨t, hwa, ps, ht, lps, har⟩ := I.web
    have n4 := I.wb.n4
    have k2 := I.k2
    have k24 := I.k24
    have hd := I.dial
    have kp : 0 < k := by omega
    have pk := Ca.pow_lt k24 n4
    have hu : (A.deeper (PyProof.Rows.envOfC (Str.ofString "_law_from") (defScope sLFrom) s.heap.objs.size f cdv)).units + 1 < cLine := by have := hr.un; omega
    refine ⟨_, pss_cons (ps_par (i := 3) (j := 4) (by rfl) scLFrom.nd rfl rfl (by decide) rfl rfl (pa_cons (pe_disp1T hu (pv 2) pe_int) (pa_cons (pe_lst (pa_cons (pv 2) pa_nil)) pa_nil)) (by rfl))
      (pss_cons (ps_while PassesOwn.never (pt_cmpR (op_neD hr.units) (pv 4) (pe_lst pa_nil) (nomark _))
        (pss_cons (ps_set (i := 5) scLFrom.nd rfl (.inl rfl) (pe_lst pa_nil))
        (pss_cons (ps_for PassesOwn.never (by rfl) (pi_list (pv 4)) (pg_name (i := 6) scLFrom.nd rfl (.inl rfl))
          (pss_one (ps_for PassesOwn.never (by rfl) (pi_tup (pe_ix ix_tup (pv 0) pe_int (fun _ _ => rfl))) (pg_name (i := 7) scLFrom.nd rfl (.inl rfl))
            (pss_cons (ps_set (i := 8) scLFrom.nd rfl (.inl rfl) (pe_df dS hr (pa_cons (pv 1) (pa_cons (pv 6) (pa_cons (pv 7) pa_nil)))))
            (pss_one (ps_if (pt_cmp (pc_dnotin hu (pv 8) (pv 3)) (by rfl))
              (pss_cons (ps_dput hu (pv 3) (pv 8) (pe_op op_add (pe_dget hu (pv 3) (pv 6) (fun _ _ => rfl)) pe_int) rfl)
              (pss_one (ps_expr (pe_bm PySem.F.plainAttrs_list PySem.F.slot_list_append PySem.F.type_list_append mt_append (pv 5) (pa_cons (pv 8) pa_nil))))) pss_nil))))))
        (pss_one (ps_set (i := 4) scLFrom.nd rfl (.inl rfl) (pv 5))))))
      (pss_one (ps_ret (pv 3)))), ?_⟩
    have hb : H b = some (.tup (d.map iv)) := I.at_
    -- found, rows = {dial: 0}, [dial]
    intro D hD
    have s1 : Same H (upd H D (.dT [])) := same_new hD
    refine ⟨_, rfl, upd_same, b, kD d, rfl, (by rw [kD_kV]; exact s1 _ _ hb), ?_⟩
    have s2 : Same H (upd (upd H D (.dT [])) D (.dT [(kD d, .int 0)])) := fun c o e => by
      rw [upd_ne (ne_of_none e hD)]
      exact s1 _ _ e
    refine ⟨_, rfl, (by show 1 ≤ sizeLine; decide), fun l hl => ⟨_, _, rfl, ?_⟩⟩
    have s3 := same_new (o := .lst [.ref b]) hl
    have fr : ∀ c, H c = none → ∀ H', Same H H' → ∀ o, Same H (upd H' c o) := fun c hc H' sx o u x e => by
      rw [upd_ne (ne_of_none e hc)]
      exact sx _ _ e
    refine ⟨fun m σ H1 => ∃ (F R : List (List Nat)) (l : Addr) (x5 x6 x7 x8 : Option V), σ = [some (.ref a), some (iv k), some (.ref b), some (.ref D), some (.ref l), x5, x6, x7, x8] ∧ OutS H D n k as d l F R H1 ∧ m = 2 * (k ^ n - F.length) + min R.length 1,
      ⟨2 * (k ^ n - 1) + 1, [d], [d], l, none, none, none, none, rfl, ⟨s2.trans s3, ⟨_, s3 _ _ upd_same, rfl, fun p hp => ⟨0, by rw [List.mem_singleton.mp hp]⟩⟩, ⟨by simp, fun e he => by rw [List.mem_singleton.mp he]; exact .refl d, by simp⟩, ⟨[b], upd_same, AllAt.snoc (ls := []) (xss := []) AllAt.nil (s3 _ _ (s2 _ _ hb))⟩, fun _ h => h, fun _ h => .inl h⟩, rfl⟩, ?_⟩
    rintro m σ H1 ⟨F, R, l, x5, x6, x7, x8, rfl, O, em⟩
    -- rows != []
    refine ⟨_, rfl, Nat.zero_le _, fun l0 hl0 => ?_⟩
    have t1 : Same H1 (upd H1 l0 (.lst [])) := same_new hl0
    refine ⟨.list (dT R), .list [], (O.r.same t1).dp, .lst (SqL.of upd_same) .nil, shaped_dT R, rfl, _, rfl, ?_⟩
    rw [eqv_nil, isEmpty_dT]
    cases R with
    | nil =>
      rw [show ([] : List (List Nat)).isEmpty = true from rfl]
      refine iteF ?_
      refine ⟨_, rfl, ?_⟩
      exact q _ D F (O.s.trans t1) (O.f.same t1) O.b.nd fun e => O.b.done (fun e he => (O.cl e he).resolve_left (fun z => nomatch z)) e
    | cons e1 R1 =>
      generalize hR : e1 :: R1 = R at O em
      have Rp : 1 ≤ R.length := by rw [← hR]; exact Nat.le_add_left _ _
      clear hR
      rw [Nat.min_eq_right Rp] at em
      rw [show R.isEmpty = false by cases R with | nil => cases Rp | cons _ _ => rfl]
      refine iteT ⟨fun σ' H' => ∃ m', m' < m ∧ ∃ (F R : List (List Nat)) (l : Addr) (x5 x6 x7 x8 : Option V), σ' = [some (.ref a), some (iv k), some (.ref b), some (.ref D), some (.ref l), x5, x6, x7, x8] ∧ OutS H D n k as d l F R H' ∧ m' = 2 * (k ^ n - F.length) + min R.length 1, fun σ' H' z => z, ?_⟩
      -- more = []
      refine ⟨Nat.zero_le _, fun pm hpm => ?_⟩
      obtain ⟨rs, hrs, ra⟩ := O.r.same t1
      have t2 : Same (upd H1 l0 (.lst [])) (upd (upd H1 l0 (.lst [])) pm (.lst [])) := same_new hpm
      have pml : pm ≠ l := (ne_of_none hrs hpm).symm
      have pmH : H pm = none := (O.s.trans t1).free hpm
      refine ⟨_, rfl, l, rfl, ⟨_, SqL.of (t2 _ _ hrs)⟩, ?_⟩
      refine for_list (K := K) (a := l) (xs := rs.map V.ref) (fun i σ H2 => ∃ (G M : List (List Nat)) (x6 x7 x8 : Option V), σ = [some (.ref a), some (iv k), some (.ref b), some (.ref D), some (.ref l), some (.ref pm), x6, x7, x8] ∧ MidS H D k as d l pm rs R F.length i G M H2)
        ⟨F, [], x6, x7, x8, rfl, ⟨(O.s.trans t1).trans t2, (O.f.same t1).same t2, O.b, t2 _ _ hrs, ra.mono fun c _ xs g => t2 _ _ g, ⟨[], upd_same, AllAt.nil⟩, O.sub, (fun _ z => nomatch z), fun e he => (O.cl e he).elim .inl fun z => .inr (.inr z), rfl⟩⟩ ?_ ?_ ?_
      · rintro i σ H2 _ ⟨_, _, _, _, _, rfl, z⟩
        exact SqL.of z.r
      · rintro i x σ H2 hx ⟨G, M, x6, x7, x8, rfl, Z⟩
        obtain ⟨c0, hc0, rfl⟩ := get_map hx
        obtain ⟨e0, he0, at0⟩ := Z.ra.of hc0
        have e0R : e0 ∈ R := List.mem_of_getElem? he0
        have hwa2 := Z.s _ _ hwa
        have ht2 := Z.s _ _ ht
        -- for arrow in web[1]
        refine ⟨_, rfl, a, _, _, .ref t, rfl, rfl, SqT.of hwa2, atI_nat (j := 1) rfl, t, rfl, ⟨_, SqT.of ht2⟩, ?_⟩
        refine for_tup (K := K) (a := t) (xs := ps.map V.ref) (fun j σ H3 => ∃ (G M : List (List Nat)) (x7 x8 : Option V), σ = [some (.ref a), some (iv k), some (.ref b), some (.ref D), some (.ref l), some (.ref pm), some (.ref c0), x7, x8] ∧ InS H D k as d l pm rs R F.length i e0 j G M H3)
          ⟨G, M, x7, x8, rfl, ⟨Z.s, Z.f, Z.b, Z.r, Z.ra, Z.m, Z.subR, Z.subM, fun e he => ?_, (fun y hy => by simp at hy), Z.len⟩⟩ ?_ ?_ ?_
        · rcases Z.cl e he with z | z | z
          · rcases drop_mem he0 z with y | y
            · exact .inl y
            · exact .inr (.inr (.inl y))
          · exact .inr (.inl z)
          · exact .inr (.inr (.inr z))
        · rintro j σ H3 _ ⟨_, _, _, _, rfl, z⟩
          exact SqT.of (z.s _ _ ht)
        · rintro j x σ H3 hx ⟨G, M, x7, x8, rfl, Z⟩
          obtain ⟨p, hpj, rfl⟩ := get_map hx
          have jl : j < as.length := by rw [← lps]; exact (List.getElem?_eq_some_iff.mp hpj).1
          have haj : as[j]? = some as[j] := List.getElem?_eq_getElem jl
          generalize as[j] = ar at haj
          have arm : ar ∈ as := List.mem_of_getElem? haj
          obtain ⟨w1, w2, w3⟩ := I.wb.ok _ arm
          have e0G : e0 ∈ G := Z.subR _ e0R
          have d0 : Ca.IsDial n k e0 := (Z.b.rea e0 e0G).dial kp hd
          have at0 : DialAt H3 c0 e0 := Z.ra.2 i c0 e0 hc0 he0
          refine ⟨_, rfl, _, rfl, _, rfl, c0, p, n, k, e0, ar, rfl, at0, Z.s _ _ (har j p ar hpj haj), d0, ⟨w1, w2, n4, k2, k24⟩, fun H4 c u4 hc => ?_⟩
          have f4 := Z.f.same u4
          obtain ⟨kvs, hk, ek, vk⟩ := f4
          have hc' : H4 c = some (.tup ((kD (Ca.stp k e0 ar)).map kV)) := by rw [kD_kV]; exact hc
          have at4 : H4 c0 = some (.tup ((kD e0).map kV)) := by rw [kD_kV]; exact u4 _ _ at0
          refine ⟨_, rfl, _, rfl, D, _, rfl, DGet.t hk hc', _, rfl, ?_⟩
          have isF := valV_found (Ca.stp k e0 ar) ek
          cases hv : valV kvs (kD (Ca.stp k e0 ar)) with
          | some v =>
            rw [hv] at isF
            have inG : Ca.stp k e0 ar ∈ G := of_decide_eq_true isF.symm
            refine iteF ⟨G, M, _, _, rfl, ⟨Z.s.trans u4, ⟨kvs, hk, ek, vk⟩, Z.b, u4 _ _ Z.r, Z.ra.mono fun c _ xs g => u4 _ _ g, Z.m.same u4, Z.subR, Z.subM, Z.cl, fun y hy => ?_, Z.len⟩⟩
            rcases take_mem haj hy with z | z
            · exact Z.seen y z
            · rw [z]; exact inG
          | none =>
            rw [hv] at isF
            have nG : Ca.stp k e0 ar ∉ G := of_decide_eq_false isF.symm
            have is0 := valV_found e0 ek
            rw [decide_eq_true e0G] at is0
            obtain ⟨v0, hv0⟩ := Option.isSome_iff_exists.mp is0
            obtain ⟨p0, hp0, ep0⟩ := valV_mem hv0
            obtain ⟨i0, ei0⟩ := vk p0 hp0
            have hv1 : valV kvs (kD e0) = some (.int i0) := by rw [hv0, ← ep0, ei0]
            have B' := Z.b.more e0G arm nG
            have gl : kvs.length < sizeLine := by
              rw [FoundAt.len ek]
              exact Nat.lt_of_le_of_lt (Nat.le_trans (Z.b.len kp hd) pk) (by decide)
            obtain ⟨ms, hms, ma⟩ := Z.m.same u4
            have lms : ms.length < sizeLine := by
              have g1 := Z.b.len kp hd
              have g2 := Z.len
              have g3 := ma.1
              exact Nat.lt_of_le_of_lt (by omega : _ ≤ 331776) (by decide)
            have Dpm : D ≠ pm := ne_of hk hms (fun z => nomatch z)
            refine iteT ⟨_, rfl, _, rfl, D, _, rfl, (by rw [← hv1]; exact DGet.t hk at4), _, _, rfl, rfl, _, rfl, _, rfl, D, _, rfl, DPut.t hk hc' gl, ?_⟩
            have hms5 : (upd H4 D (.dT (putK kvs (kD (Ca.stp k e0 ar)) (.int (i0 + 1))))) pm = some (.lst (ms.map V.ref)) := by rw [upd_ne Dpm.symm]; exact hms
            refine ⟨_, rfl, .inl ⟨rfl, _, SqL.of hms5⟩, _, rfl, pm, _, _, rfl, rfl, hms5, (by rw [List.length_map]; exact lms), ?_⟩
            have keep : ∀ u o, H4 u = some o → u ≠ D → u ≠ pm → (upd (upd H4 D (.dT (putK kvs (kD (Ca.stp k e0 ar)) (.int (i0 + 1))))) pm (.lst (ms.map V.ref ++ [.ref c]))) u = some o := fun u o e n1 n2 => by
              rw [upd_ne n2, upd_ne n1]
              exact e
            have keepT : ∀ u xs, H4 u = some (.tup xs) → (upd (upd H4 D (.dT (putK kvs (kD (Ca.stp k e0 ar)) (.int (i0 + 1))))) pm (.lst (ms.map V.ref ++ [.ref c]))) u = some (.tup xs) := fun u xs e => keep u _ e (ne_of e hk (fun z => nomatch z)) (ne_of e hms (fun z => nomatch z))
            refine ⟨G ++ [Ca.stp k e0 ar], M ++ [Ca.stp k e0 ar], _, _, rfl, ⟨fr pm pmH _ (fr D hD _ (Z.s.trans u4) _) _, ?_, B', keep _ _ (u4 _ _ Z.r) (ne_of (u4 _ _ Z.r) hk (fun z => nomatch z)) pml.symm, Z.ra.mono fun c _ xs g => keepT _ _ (u4 _ _ g), ⟨ms ++ [c], by rw [upd_same, ref_snoc], AllAt.snoc (ma.mono fun c _ xs g => keepT _ _ g) (keepT _ _ hc)⟩, fun e he => List.mem_append_left _ (Z.subR e he), fun e he => ?_, fun e he => ?_, fun y hy => ?_, ?_⟩⟩
            · refine ⟨putK kvs (kD (Ca.stp k e0 ar)) (.int (i0 + 1)), ?_, ?_, ?_⟩
              · rw [upd_ne Dpm, upd_same]
              · rw [putK_new _ hv, List.map_append, ek, List.map_append]
                rfl
              · rw [putK_new _ hv]
                intro y hy
                rcases List.mem_append.mp hy with z | z
                · exact vk y z
                · rw [List.mem_singleton.mp z]; exact ⟨_, rfl⟩
            · rcases List.mem_append.mp he with z | z
              · exact List.mem_append_left _ (Z.subM e z)
              · exact List.mem_append_right _ z
            · rcases List.mem_append.mp he with z | z
              · rcases Z.cl e z with y | y | y | y
                · exact .inl y
                · exact .inr (.inl (List.mem_append_left _ y))
                · exact .inr (.inr (.inl y))
                · exact .inr (.inr (.inr (y.mono fun x hx => List.mem_append_left _ hx)))
              · exact .inr (.inl (List.mem_append_right _ z))
            · rcases take_mem haj hy with z | z
              · exact List.mem_append_left _ (Z.seen y z)
              · rw [z]; exact List.mem_append_right _ (List.mem_singleton.mpr rfl)
            · have := Z.len
              rw [List.length_append, List.length_append, List.length_singleton]
              omega
        · rintro σ H3 ⟨G, M, x7, x8, rfl, Z⟩
          refine ⟨G, M, _, _, _, rfl, ⟨Z.s, Z.f, Z.b, Z.r, Z.ra, Z.m, Z.subR, Z.subM, fun e he => ?_, Z.len⟩⟩
          have tk : as.take (ps.map V.ref).length = as := List.take_of_length_le (by rw [List.length_map, lps]; exact Nat.le_refl _)
          rcases Z.cl e he with z | z | z | z
          · exact .inl z
          · exact .inr (.inl z)
          · refine .inr (.inr fun y hy => ?_)
            rw [z]
            exact Z.seen y (by rw [tk]; exact hy)
          · exact .inr (.inr z)
      · rintro σ H2 ⟨G, M, x6, x7, x8, rfl, Z⟩
        -- rows = more
        refine ⟨_, rfl, 2 * (k ^ n - G.length) + min M.length 1, ?_, G, M, pm, _, _, _, _, rfl, ⟨Z.s, Z.f, Z.b, Z.m, Z.subM, fun e he => ?_⟩, rfl⟩
        · have g1 := Z.b.len kp hd
          have g2 := Z.len
          have g3 : min M.length 1 ≤ 1 := Nat.min_le_right _ _
          have g4 : min M.length 1 ≤ M.length := Nat.min_le_left _ _
          omega
        · have dr : R.drop (rs.map V.ref).length = [] := List.drop_of_length_le (by rw [List.length_map, Z.ra.1]; exact Nat.le_refl _)
          rcases Z.cl e he with z | z | z
          · rw [dr] at z; cases z
          · exact .inl z
          · exact .inr z
end
end CaW

set_option Elab.async false
set_option linter.all false
set_option maxRecDepth 100000
/-! Alike: ints, bools, tuples of such: _law_alike. -/
namespace CaW
open PySem L2 CaR
theorem kit_int_str : kitB "int" "str" = some false := by decide +kernel
theorem kit_bool_str : kitB "bool" "str" = some false := by decide +kernel
theorem kit_bool_int : kitB "bool" "int" = some true := by decide +kernel
theorem kit_bool_bool : kitB "bool" "bool" = some true := by decide +kernel
theorem kit_tup_lst : kitB "tuple" "list" = some false := by decide +kernel
theorem any_int {K : PySem.W.Frag} : PySem.W.kitAny K (.type "int") [.type "tuple", .type "list"] = some false := kitAny_cons (kit_ty (r := false) (by decide +kernel)) (fun _ => kitAny_cons (kit_ty (r := false) (by decide +kernel)) (fun _ => kitAny_nil) (fun z => nomatch z)) (fun z => nomatch z)
theorem any_bool {K : PySem.W.Frag} : PySem.W.kitAny K (.type "bool") [.type "tuple", .type "list"] = some false := kitAny_cons (kit_ty (r := false) (by decide +kernel)) (fun _ => kitAny_cons (kit_ty (r := false) (by decide +kernel)) (fun _ => kitAny_nil) (fun z => nomatch z)) (fun z => nomatch z)
theorem any_tup {K : PySem.W.Frag} : PySem.W.kitAny K (.type "tuple") [.type "tuple", .type "list"] = some true := kitAny_cons (kit_ty (r := true) (by decide +kernel)) (fun z => nomatch z) (fun _ => rfl)
section
variable {P : Program} {w : World} {K : PySem.W.Frag} {mg : Str → Option Value} {base : Heap}
abbrev nAlike : List Str := ["_law_found", "_law_due", "_law_k"]
abbrev sAlike : Stmt := topS 38
theorem scAlike : FnScope nAlike ["_law_found", "_law_due"] (defScope sAlike) := ⟨rfl, rfl, rfl, by decide +kernel, rfl, by decide +kernel, by decide +kernel⟩
def spPair (R : Hp → V → V → Prop) : Sp := fun vs H Q _ => ∃ x y : V, vs = [x, y] ∧ R H x y ∧ ∀ H', Same H H' → Q (.bl true) H'
def R0 (H : Hp) (x y : V) : Prop := (∃ i, x = .int i ∧ y = .int i) ∨ (∃ b, x = .bl b ∧ y = .bl b)
def RT (R : Hp → V → V → Prop) (H : Hp) (x y : V) : Prop := ∃ (p q : Addr) (xs ys : List V), x = .ref p ∧ y = .ref q ∧ H p = some (.tup xs) ∧ H q = some (.tup ys) ∧ xs.length = ys.length ∧ xs.length ≤ 1000 ∧ ∀ (i : Nat) (u v : V), xs[i]? = some u → ys[i]? = some v → ∀ H', Same H H' → R H' u v
theorem ok_alike0 {f : Addr} {fd : FuncData} (F : Fun K "_law_alike" "_law_alike" sAlike f fd) (B : Bt mg) : FnOk P w K mg base CX0 1 f fd ["_law_found", "_law_due"] (spPair R0) := by
  refine F.ok scAlike (fun vs H Q E h => ?_) (fun cdv A outer s H vs Q E hr h => ?_)
  · obtain ⟨_, _, rfl, _⟩ := h
    rfl
  · obtain ⟨x, y, rfl, hxy, q⟩ := h
    refine ⟨_, pss_cons (ps_if (pt_val (pe_callB call_isiT (by rfl) B.isi (by decide +kernel) (pa_cons (pv 1) (pa_cons (pe_tup (pa_cons (pe_bltn (v := .ty "tuple") (by rfl) B.tuple (by decide +kernel) rfl) (pa_cons (pe_bltn (v := .ty "list") (by rfl) B.list (by decide +kernel) rfl) pa_nil))) pa_nil)))) pss_never pss_nil)
      (pss_cons (ps_if (PW.pt (pw_or (pt_cmp (pc_isN (pv 1)) (by rfl)) (pw_or1 (pt_val (pe_callB call_isi (by rfl) B.isi (by decide +kernel) (pa_cons (pv 1) (pa_cons (pe_bltn (v := .ty "str") (by rfl) B.str (by decide +kernel) rfl) pa_nil))))))) pss_never pss_nil)
      (pss_one (ps_ret (pe_and (pe_callB call_isi (by rfl) B.isi (by decide +kernel) (pa_cons (pv 0) (pa_cons (pe_bltn (v := .ty "int") (by rfl) B.int (by decide +kernel) rfl) pa_nil)))
        (pe_and (pe_cmpR op_eq (pe_callB call_isi (by rfl) B.isi (by decide +kernel) (pa_cons (pv 0) (pa_cons (pe_bltn (v := .ty "bool") (by rfl) B.bool (by decide +kernel) rfl) pa_nil))) (pe_callB call_isi (by rfl) B.isi (by decide +kernel) (pa_cons (pv 1) (pa_cons (pe_bltn (v := .ty "bool") (by rfl) B.bool (by decide +kernel) rfl) pa_nil))) (nomark _))
          (pe_one (pe_cmpR op_eq (pv 0) (pv 1) (nomark _)))))))), ?_⟩
    refine ⟨_, rfl, (by show 2 ≤ sizeLine; decide), fun p np => ?_⟩
    have s1 : Same H (upd H p (.tup [.ty "tuple", .ty "list"])) := same_new np
    rcases hxy with ⟨i, rfl, rfl⟩ | ⟨b, rfl, rfl⟩
    · refine ⟨_, p, _, _, _, false, rfl, upd_same, .cons (.ty _) (.cons (.ty _) .nil), .base (.int _), any_int, _, rfl, iteF ?_⟩
      refine ⟨_, rfl, _, rfl, iteF ⟨_, rfl, _, _, _, _, false, rfl, .ty _, .base (.int _), kit_ty kit_int_str, false, rfl, iteF ?_⟩⟩
      refine ⟨_, rfl, _, _, _, _, true, rfl, .ty _, .base (.int _), kit_ty kit_int_int, true, rfl, iteT ?_⟩
      refine ⟨_, rfl, _, _, _, _, false, rfl, .ty _, .base (.int _), kit_ty kit_int_bool, _, rfl, _, _, _, _, false, rfl, .ty _, .base (.int _), kit_ty kit_int_bool, rfl, true, rfl, iteT ?_⟩
      refine ⟨_, rfl, _, rfl, rfl, ?_⟩
      rw [decide_eq_true rfl]
      exact q _ s1
    · refine ⟨_, p, _, _, _, false, rfl, upd_same, .cons (.ty _) (.cons (.ty _) .nil), .base (.bl _), any_bool, _, rfl, iteF ?_⟩
      refine ⟨_, rfl, _, rfl, iteF ⟨_, rfl, _, _, _, _, false, rfl, .ty _, .base (.bl _), kit_ty kit_bool_str, false, rfl, iteF ?_⟩⟩
      refine ⟨_, rfl, _, _, _, _, true, rfl, .ty _, .base (.bl _), kit_ty kit_bool_int, true, rfl, iteT ?_⟩
      refine ⟨_, rfl, _, _, _, _, true, rfl, .ty _, .base (.bl _), kit_ty kit_bool_bool, _, rfl, _, _, _, _, true, rfl, .ty _, .base (.bl _), kit_ty kit_bool_bool, rfl, true, rfl, iteT ?_⟩
      refine ⟨_, rfl, _, rfl, rfl, ?_⟩
      rw [decide_eq_true rfl]
      exact q _ s1
theorem ok_alikeT {R : Hp → V → V → Prop} {L : Nat} {f : Addr} {fd : FuncData} (F : Fun K "_law_alike" "_law_alike" sAlike f fd) (B : Bt mg) (dA : Df P w K mg base L "_law_alike" ["_law_found", "_law_due"] (spPair R)) : FnOk P w K mg base CX0 (L + 1) f fd ["_law_found", "_law_due"] (spPair (RT R)) := by
  refine F.ok scAlike (fun vs H Q E h => ?_) (fun cdv A outer s H vs Q E hr h => ?_)
  · obtain ⟨_, _, rfl, _⟩ := h
    rfl
  · obtain ⟨x, y, rfl, ⟨a, b, xs, ys, rfl, rfl, ha, hb, hl, hz, hxy⟩, q⟩ := h
    refine ⟨_, pss_cons (ps_if (pt_val (pe_callB call_isiT (by rfl) B.isi (by decide +kernel) (pa_cons (pv 1) (pa_cons (pe_tup (pa_cons (pe_bltn (v := .ty "tuple") (by rfl) B.tuple (by decide +kernel) rfl) (pa_cons (pe_bltn (v := .ty "list") (by rfl) B.list (by decide +kernel) rfl) pa_nil))) pa_nil))))
        (pss_cons (ps_if (PW.pt (pw_or (pt_not (pt_val (pe_callB call_isiT (by rfl) B.isi (by decide +kernel) (pa_cons (pv 0) (pa_cons (pe_tup (pa_cons (pe_bltn (v := .ty "tuple") (by rfl) B.tuple (by decide +kernel) rfl) (pa_cons (pe_bltn (v := .ty "list") (by rfl) B.list (by decide +kernel) rfl) pa_nil))) pa_nil)))))
            (pw_or1 (pt_cmpR op_ne (pe_callB call_isi (by rfl) B.isi (by decide +kernel) (pa_cons (pv 0) (pa_cons (pe_bltn (v := .ty "list") (by rfl) B.list (by decide +kernel) rfl) pa_nil))) (pe_callB call_isi (by rfl) B.isi (by decide +kernel) (pa_cons (pv 1) (pa_cons (pe_bltn (v := .ty "list") (by rfl) B.list (by decide +kernel) rfl) pa_nil))) (nomark _))))) pss_never pss_nil)
        (pss_cons (ps_if (pt_cmpR op_ne (pe_callB call_len_seq (by rfl) B.len PySem.boot_len (pa_cons (pv 0) pa_nil)) (pe_callB call_len_seq (by rfl) B.len PySem.boot_len (pa_cons (pv 1) pa_nil)) (nomark _)) pss_never pss_nil)
        (pss_one (ps_ret (pe_cmpR (op_eqD hr.units)
          (pe_lc (own := [("_law_k", 2)]) (g := gName 2) (by rfl) scAlike.nd (pi_range1 (by rfl) B.range (pa_cons (pe_callB call_len_seq (by rfl) B.len PySem.boot_len (pa_cons (pv 1) pa_nil)) pa_nil)) (blkOk_by (N := nAlike) (sc := defScope sAlike) (by decide +kernel))
            (fun _ _ _ _ _ => pg_name (i := 2) scAlike.nd rfl (.inl rfl))
            (fun _ _ _ _ _ => pts_one (pt_not (pt_val (pe_df dA hr (pa_cons (pe_ix (r := rIxT K) ix_tup (pv 0) (pv 2) (fun _ _ => rfl)) (pa_cons (pe_ix (r := rIxT K) ix_tup (pv 1) (pv 2) (fun _ _ => rfl)) pa_nil))))))
            (fun _ _ _ _ _ => pv 2)) (pe_lst pa_nil) (nomark _)))))) pss_nil) pss_never, ?_⟩
    refine ⟨_, rfl, (by show 2 ≤ sizeLine; decide), fun p np => ?_⟩
    have s1 : Same H (upd H p (.tup [.ty "tuple", .ty "list"])) := same_new np
    refine ⟨_, p, _, _, _, true, rfl, upd_same, .cons (.ty _) (.cons (.ty _) .nil), .base (.tup (s1 _ _ hb)), any_tup, _, rfl, iteT ?_⟩
    refine ⟨_, rfl, (by show 2 ≤ sizeLine; decide), fun p2 np2 => ?_⟩
    have s2 := s1.trans (same_new (o := .tup [.ty "tuple", .ty "list"]) np2)
    refine ⟨_, p2, _, _, _, true, rfl, upd_same, .cons (.ty _) (.cons (.ty _) .nil), .base (.tup (s2 _ _ ha)), any_tup, _, rfl, iteF ?_⟩
    refine ⟨_, rfl, _, _, _, _, false, rfl, .ty _, .base (.tup (s2 _ _ ha)), kit_ty kit_tup_lst, _, rfl, _, _, _, _, false, rfl, .ty _, .base (.tup (s2 _ _ hb)), kit_ty kit_tup_lst, rfl, _, rfl, iteF ?_⟩
    refine ⟨_, rfl, a, _, rfl, .inr (SqT.of (s2 _ _ ha)), _, rfl, b, _, rfl, .inr (SqT.of (s2 _ _ hb)), rfl, _, rfl, ?_⟩
    rw [decide_eq_true (show V.int ((xs.length : Nat) : Int) = V.int ((ys.length : Nat) : Int) by rw [hl])]
    refine iteF ?_
    refine ⟨_, rfl, b, ys, rfl, .inr (SqT.of (s2 _ _ hb)), (ys.length : Int), rfl, by omega, by omega, fun D hD => ?_⟩
    refine lc_range (lo := 0) (n := (ys.length : Int).toNat) (fun i H1 => Same H H1 ∧ H1 D = some (.lst [])) ⟨s2.trans (same_new hD), upd_same⟩ ?_ ?_
    · rintro i H1 hi ⟨s3, e3⟩
      have il : i < ys.length := by omega
      rw [show V.int (0 + (i : Int)) = iv i by rw [Int.zero_add]; rfl]
      have gx : xs[i]? = some (xs[i]'(by omega)) := List.getElem?_eq_getElem _
      have gy : ys[i]? = some (ys[i]'il) := List.getElem?_eq_getElem _
      refine ⟨rfl, ?_⟩
      refine ⟨_, rfl, _, rfl, a, _, _, _, rfl, rfl, SqT.of (s3 _ _ ha), atI_nat gx, _, rfl, _, rfl, b, _, _, _, rfl, rfl, SqT.of (s3 _ _ hb), atI_nat gy, _, _, rfl, hxy i _ _ gx gy H1 s3, fun H4 s4 => ⟨_, rfl, ?_⟩⟩
      exact iteF ⟨s3.trans s4, s4 _ _ e3⟩
    · rintro H1 ⟨s3, e3⟩
      refine ⟨Nat.zero_le _, fun l hl => ?_⟩
      have s4 : Same H1 (upd H1 l (.lst [])) := same_new hl
      refine ⟨.list [], .list [], .lst (SqL.of (s4 _ _ e3)) .nil, .lst (SqL.of upd_same) .nil, rfl, rfl, ?_⟩
      exact q _ (s3.trans s4)
end
end CaW

set_option Elab.async false
set_option linter.all false
set_option maxRecDepth 100000
/-! The law's own leads: _law_leads. -/
namespace Ca
theorem asc_eq {F G : List Nat} (hF : F.Pairwise (· < ·)) (hG : G.Pairwise (· < ·)) (h : ∀ x, x ∈ F ↔ x ∈ G) : F = G := by
  have nF : F.Nodup := hF.imp fun h e => by omega
  have nG : G.Nodup := hG.imp fun h e => by omega
  have p : F.Perm G := (List.perm_ext_iff_of_nodup nF nG).mpr h
  exact List.Perm.eq_of_pairwise (fun a b _ _ h1 h2 => by omega) hF hG p
def ClF (as : Arrs) (F : List Nat) : Prop := ∀ a ∈ as, a.1 ∈ F → a.2 ∈ F
structure Gd (n : Nat) (as : Arrs) (k : Nat) (F : List Nat) : Prop where
  asc : F.Pairwise (· < ·)
  one : k ∈ F
  in_ : ∀ x ∈ F, x < n ∧ Rch as k x
theorem Gd.nd {n : Nat} {as : Arrs} {k : Nat} {F : List Nat} (g : Gd n as k F) : F.Nodup := g.asc.imp fun h e => by omega
theorem Gd.len {n : Nat} {as : Arrs} {k : Nat} {F : List Nat} (g : Gd n as k F) : F.length ≤ n := by
  have := len_le F (List.range n) g.nd fun x hx => List.mem_range.mpr (g.in_ x hx).1
  simpa using this
theorem Gd.done {n : Nat} {as : Arrs} {k : Nat} {F : List Nat} (g : Gd n as k F) (h : ClF as F ∨ n + 1 ≤ F.length) : F = led n as k := by
  rcases h with c | h
  · refine asc_eq g.asc (led_asc n as k) fun x => ?_
    rw [mem_led]
    refine ⟨g.in_ x, fun hx => ?_⟩
    have r := hx.2
    clear hx
    induction r with
    | refl => exact g.one
    | step _ m ih => exact c _ m ih
  · have := g.len
    omega
/-- within a turn that began with F0, behind i arrows -/
structure Tn (n : Nat) (as : Arrs) (k : Nat) (F0 F : List Nat) (i : Nat) : Prop where
  gd : Gd n as k F
  gd0 : Gd n as k F0
  sub : ∀ x ∈ F0, x ∈ F
  seen : ∀ a ∈ as.take i, a.1 ∈ F0 → a.2 ∈ F
  cl : ClF as F0 → F = F0
theorem Tn.start {n : Nat} {as : Arrs} {k : Nat} {F : List Nat} (g : Gd n as k F) : Tn n as k F F 0 := ⟨g, g, fun _ h => h, fun a h => by simp at h, fun _ => rfl⟩
theorem take_mem' {α : Type} {l : List α} {i : Nat} {x y : α} (h : l[i]? = some x) (m : y ∈ l.take (i + 1)) : y ∈ l.take i ∨ y = x := by
  rw [List.take_add_one, h] at m
  rcases List.mem_append.mp m with z | z
  · exact .inl z
  · exact .inr (List.mem_singleton.mp z)
theorem Tn.skip {n : Nat} {as : Arrs} {k i : Nat} {F0 F : List Nat} {a : Nat × Nat} (T : Tn n as k F0 F i) (ha : as[i]? = some a) (h : a.1 ∈ F → a.2 ∈ F) : Tn n as k F0 F (i + 1) :=
  ⟨T.gd, T.gd0, T.sub, fun b hb hb1 => by
    rcases take_mem' ha hb with z | z
    · exact T.seen b z hb1
    · rw [z] at hb1 ⊢
      exact h (T.sub _ hb1), T.cl⟩
theorem Tn.add {n : Nat} {as : Arrs} {k i : Nat} {F0 F G : List Nat} {a : Nat × Nat} (ok : WebOk n as) (T : Tn n as k F0 F i) (ha : as[i]? = some a) (h1 : a.1 ∈ F) (h2 : a.2 ∉ F) (asc : G.Pairwise (· < ·)) (hG : ∀ x, x ∈ G ↔ x ∈ F ∨ x = a.2) : Tn n as k F0 G (i + 1) where
  gd := ⟨asc, (hG k).mpr (.inl T.gd.one), fun x hx => by
    rcases (hG x).mp hx with z | z
    · exact T.gd.in_ x z
    · have m := List.mem_of_getElem? ha
      rw [z]
      exact ⟨(ok _ m).2.1, .step (T.gd.in_ _ h1).2 m⟩⟩
  gd0 := T.gd0
  sub := fun x hx => (hG x).mpr (.inl (T.sub x hx))
  seen := fun b hb hb1 => by
    rcases take_mem' ha hb with z | z
    · exact (hG _).mpr (.inl (T.seen b z hb1))
    · rw [z]
      exact (hG _).mpr (.inr rfl)
  cl := fun c => by
    have e := T.cl c
    rw [e] at h1 h2
    exact absurd (c _ (List.mem_of_getElem? ha) h1) h2
theorem Tn.end_ {n t : Nat} {as : Arrs} {k : Nat} {F0 F : List Nat} (T : Tn n as k F0 F as.length) (h : ClF as F0 ∨ t + 1 ≤ F0.length) : ClF as F ∨ t + 1 + 1 ≤ F.length := by
  by_cases c : ClF as F0
  · rw [T.cl c]
    exact .inl c
  · refine .inr ?_
    have h := h.resolve_left c
    unfold ClF at c
    obtain ⟨a, c⟩ := Classical.not_forall.mp c
    obtain ⟨m, c⟩ := Classical.not_forall.mp c
    obtain ⟨h1, h2⟩ := Classical.not_forall.mp c
    have := len_le (a.2 :: F0) F (List.nodup_cons.mpr ⟨h2, T.gd0.nd⟩) fun x hx => by
      rcases List.mem_cons.mp hx with z | z
      · rw [z]
        exact T.seen a (by rw [List.take_length]; exact m) h1
      · exact T.sub x z
    rw [List.length_cons] at this
    omega
/-- n lists, each as Pv says -/
def AllN (n : Nat) (xss : List (List Nat)) (Pv : Nat → List Nat → Prop) : Prop := xss.length = n ∧ ∀ (k : Nat) (F : List Nat), xss[k]? = some F → Pv k F
theorem AllN.set {n : Nat} {xss : List (List Nat)} {Pv Qv : Nat → List Nat → Prop} {i : Nat} {G : List Nat} (h : AllN n xss Pv) (h1 : Qv i G) (h2 : ∀ k F, k ≠ i → Pv k F → Qv k F) : AllN n (xss.set i G) Qv := by
  refine ⟨by rw [List.length_set]; exact h.1, fun k F hk => ?_⟩
  rw [List.getElem?_set] at hk
  by_cases e : i = k
  · subst e
    rw [if_pos rfl] at hk
    by_cases l : i < xss.length
    · rw [if_pos l] at hk
      rw [← Option.some.inj hk]
      exact h1
    · rw [if_neg l] at hk
      cases hk
  · rw [if_neg e] at hk
    exact h2 k F (fun z => e z.symm) (h.2 k F hk)
theorem AllN.mono {n : Nat} {xss : List (List Nat)} {Pv Qv : Nat → List Nat → Prop} (h : AllN n xss Pv) (h2 : ∀ k F, k < n → xss[k]? = some F → Pv k F → Qv k F) : AllN n xss Qv := by
  refine ⟨h.1, fun k F hk => h2 k F ?_ hk (h.2 k F hk)⟩
  rw [← h.1]
  exact (List.getElem?_eq_some_iff.mp hk).1
end Ca
namespace CaW
open PySem L2 CaR
theorem AllAt.set {G : Hp → Addr → List Nat → Prop} {H : Hp} {ls : List Addr} {xss : List (List Nat)} {p : Addr} {xs : List Nat} {i : Nat} (h : AllAt G H ls xss) (hp : G H p xs) : AllAt G H (ls.set i p) (xss.set i xs) := by
  refine ⟨by rw [List.length_set, List.length_set]; exact h.1, fun k q ys a b => ?_⟩
  rw [List.getElem?_set] at a b
  by_cases e : i = k
  · subst e
    rw [if_pos rfl] at a b
    by_cases l : i < ls.length
    · rw [if_pos l] at a
      rw [if_pos (by rw [← h.1]; exact l)] at b
      rw [← Option.some.inj a, ← Option.some.inj b]
      exact hp
    · rw [if_neg l] at a
      cases a
  · rw [if_neg e] at a b
    exact h.2 k q ys a b
section
variable {P : Program} {w : World} {K : PySem.W.Frag} {mg : Str → Option Value} {base : Heap}
abbrev nLLeads : List Str := ["_law_web_here", "_law_found", "_law_k", "_law_turn", "_law_one", "_law_other"]
abbrev sLLeads : Stmt := topS 39
theorem scLLeads : FnScope nLLeads ["_law_web_here"] (defScope sLLeads) := ⟨rfl, rfl, rfl, by decide +kernel, rfl, by decide +kernel, by decide +kernel⟩
def spLLeads : Sp := fun vs H Q _ => ∃ (a : Addr) (n : Nat) (as : Ca.Arrs), vs = [.ref a] ∧ WebAt H a n as ∧ Wb n as ∧ ∀ (H' : Hp) (q : Addr), Same H H' → LsAt H' q (leds n as) → Q (.ref q) H'
/-- the lists at D: its own list is written, all else stays -/
structure LdS (H : Hp) (D : Addr) (n : Nat) (Pv : Nat → List Nat → Prop) (xss : List (List Nat)) (H1 : Hp) : Prop where
  s : Same H H1
  l : LsAt H1 D xss
  p : Ca.AllN n xss Pv
  ne : ∀ ls : List Addr, H1 D = some (.lst (ls.map V.ref)) → ∀ p ∈ ls, p ≠ D
theorem LdS.same {H H1 H2 : Hp} {D : Addr} {n : Nat} {Pv : Nat → List Nat → Prop} {xss : List (List Nat)} (L : LdS H D n Pv xss H1) (s : Same H1 H2) : LdS H D n Pv xss H2 := by
  refine ⟨L.s.trans s, L.l.same s, L.p, fun ls e p hp => ?_⟩
  obtain ⟨ls', e', _⟩ := L.l
  have := s _ _ e'
  rw [e] at this
  have e2 : ls.map V.ref = ls'.map V.ref := by injection this with z; injection z
  exact L.ne ls (by rw [e2]; exact e') p hp
theorem ixN_nat' {n j : Nat} (hj : j < n) : ixN n (j : Int) = some j := by
  unfold ixN
  rw [if_pos (by omega), if_pos (by omega)]
  simp
theorem ref_inj : ∀ {ls ms : List Addr}, ls.map V.ref = ms.map V.ref → ls = ms
  | [], [], _ => rfl
  | [], _ :: _, h => by simp at h
  | _ :: _, [], h => by simp at h
  | x :: ls, y :: ms, h => by
    rw [List.map_cons, List.map_cons] at h
    obtain ⟨h1, h2⟩ := List.cons.inj h
    rw [V.ref.inj h1, ref_inj h2]
theorem ok_lleads {f : Addr} {fd : FuncData} (Fu : Fun K "_law_leads" "_law_leads" sLLeads f fd) (B : Bt mg) : FnOk P w K mg base CX0 1 f fd ["_law_web_here"] spLLeads := by
  refine Fu.ok scLLeads (fun vs H Q E h => ?_) (fun cdv A outer s H vs Q E hr h => ?_)
  · obtain ⟨_, _, _, rfl, _⟩ := h
    rfl
  · obtain ⟨a, n, as, rfl, hw, W, q⟩ := h
    obtain ⟨t, hwa, ps, ht, lps, har⟩ := id hw
    have n4 := W.n4
    refine ⟨_, pss_cons (ps_setLc (i := 1) (own := [("_law_k", 2)]) (g := gName 2) (tt := tYes) (by rfl) scLLeads.nd rfl rfl (sw_true rfl rfl rfl (by decide +kernel)) (pi_range1 (by rfl) B.range (pa_cons (pe_ix ix_tup (pv 0) pe_int (fun _ _ => rfl)) pa_nil)) (blkOk_by (N := nLLeads) (sc := defScope sLLeads) (by decide +kernel))
          (fun _ _ _ _ _ => pg_name (i := 2) scLLeads.nd rfl (.inl rfl)) (fun _ _ _ _ _ => pts_nil) (fun _ _ _ _ _ => pe_lst (pa_cons (pv 2) pa_nil)))
      (pss_cons (ps_for PassesOwn.never (by rfl) (pi_range1 (by rfl) B.range (pa_cons (pe_ix ix_tup (pv 0) pe_int (fun _ _ => rfl)) pa_nil)) (pg_name (i := 3) scLLeads.nd rfl (.inl rfl))
        (pss_one (ps_for PassesOwn.never (by rfl) (pi_tup (pe_ix ix_tup (pv 0) pe_int (fun _ _ => rfl))) (pg_tup rfl (pgs_cons (pg_name (i := 4) scLLeads.nd rfl (.inl rfl)) (pgs_cons (pg_name (i := 5) scLLeads.nd rfl (.inl rfl)) pgs_nil)))
          (pss_one (ps_for PassesOwn.never (by rfl) (pi_range1 (by rfl) B.range (pa_cons (pe_ix ix_tup (pv 0) pe_int (fun _ _ => rfl)) pa_nil)) (pg_name (i := 2) scLLeads.nd rfl (.inl rfl))
            (pss_one (ps_if (PW.pt (pw_and (pt_cmpR op_in_seq (pv 4) (pe_ix ix_list (pv 1) (pv 2) (fun _ _ => rfl)) (by rfl)) (pw_and1 (pt_cmpR op_notIn_seq (pv 5) (pe_ix ix_list (pv 1) (pv 2) (fun _ _ => rfl)) (by rfl)))))
              (pss_one (ps_asg (pe_callB cr_sorted (by rfl) B.sorted (by decide +kernel) (pa_cons (pe_op op_cat (pe_ix ix_list (pv 1) (pv 2) (fun _ _ => rfl)) (pe_lst (pa_cons (pv 5) pa_nil))) pa_nil)) (pg_sub (pv 1) (pv 2) set_list))) pss_nil)))))))
      (pss_one (ps_ret (pv 1)))), ?_⟩
    have en : (n : Int).toNat = n := by omega
    -- found
    refine ⟨_, rfl, a, _, _, iv n, rfl, rfl, SqT.of hwa, atI_nat (j := 0) rfl, (n : Int), rfl, (bnd n4).1, (bnd n4).2, fun D hD => ?_⟩
    refine lc_range (lo := 0) (n := (n : Int).toNat) (fun i H1 => Same H H1 ∧ ∃ ls : List Addr, H1 D = some (.lst (ls.map V.ref)) ∧ (∀ p ∈ ls, p ≠ D) ∧ AllAt ListAt H1 ls ((List.range i).map fun j => [j])) ⟨same_new hD, [], upd_same, (fun _ h => nomatch h), AllAt.nil⟩ ?_ ?_
    · rintro i H1 hi ⟨s1, ls, e1, ne, al⟩
      have il : i < n := by omega
      rw [show V.int (0 + (i : Int)) = iv i by rw [Int.zero_add]; rfl]
      refine ⟨rfl, ?_⟩
      refine ⟨_, rfl, (by show 1 ≤ sizeLine; decide), fun p np => ?_⟩
      have s2 : Same H1 (upd H1 p (.lst [iv i])) := same_new np
      have pD : p ≠ D := fun e => by rw [e, e1] at np; cases np
      have ll : ls.length = i := by rw [al.1, List.length_map, List.length_range]
      refine ⟨_, s2 _ _ e1, small4 (n := n) (by rw [List.length_map]; omega) n4, fun c o e => ?_, ls ++ [p], ?_, ?_, ?_⟩
      · rw [upd_ne (ne_of_none e hD)]
        exact s2 _ _ (s1 _ _ e)
      · rw [upd_same, ref_snoc]
      · intro c hc
        rcases List.mem_append.mp hc with z | z
        · exact ne c z
        · rw [List.mem_singleton.mp z]; exact pD
      · rw [List.range_succ, List.map_append]
        refine AllAt.snoc (al.mono fun c hc xs g => ?_) ?_
        · show upd _ D _ c = _
          rw [upd_ne (ne c hc)]
          exact s2 _ _ g
        · show upd _ D _ p = _
          rw [upd_ne pD]
          exact upd_same
    · rintro H1 ⟨s1, ls, e1, ne, al⟩
      rw [en] at al
      have L0 : LdS H D n (fun k F => Ca.Gd n as k F ∧ (Ca.ClF as F ∨ 0 + 1 ≤ F.length)) ((List.range n).map fun j => [j]) H1 := by
        refine ⟨s1, ⟨ls, e1, al⟩, ⟨by rw [List.length_map, List.length_range], fun k F hk => ?_⟩, fun ls' e' => ?_⟩
        · obtain ⟨j, hj, rfl⟩ := get_map hk
          obtain ⟨l1, l2⟩ := List.getElem?_eq_some_iff.mp hj
          rw [List.length_range] at l1
          rw [List.getElem_range] at l2
          subst l2
          exact ⟨⟨by simp, by simp, fun x hx => by rw [List.mem_singleton.mp hx]; exact ⟨l1, .refl _⟩⟩, .inr (Nat.le_refl _)⟩
        · rw [e1] at e'
          have z : ls.map V.ref = ls'.map V.ref := by injection e' with z; injection z
          rw [← ref_inj z]
          exact ne
      -- the turns
      refine ⟨_, rfl, a, _, _, iv n, rfl, rfl, SqT.of (s1 _ _ hwa), atI_nat (j := 0) rfl, (n : Int), rfl, (bnd n4).1, (bnd n4).2, ?_⟩
      refine for_range (lo := 0) (n := (n : Int).toNat) (fun t σ H2 => ∃ (xss : List (List Nat)) (x2 x3 x4 x5 : Option V), σ = [some (.ref a), some (.ref D), x2, x3, x4, x5] ∧ LdS H D n (fun k F => Ca.Gd n as k F ∧ (Ca.ClF as F ∨ t + 1 ≤ F.length)) xss H2) ⟨_, _, none, none, none, rfl, L0⟩ ?_ ?_
      · rintro u σ H2 hu ⟨xss, x2, x3, x4, x5, rfl, L⟩
        refine ⟨_, rfl, a, _, _, .ref t, rfl, rfl, SqT.of (L.s _ _ hwa), atI_nat (j := 1) rfl, t, rfl, ⟨_, SqT.of (L.s _ _ ht)⟩, ?_⟩
        refine for_tup (K := K) (a := t) (xs := ps.map V.ref) (fun i σ H3 => ∃ (xss : List (List Nat)) (x2 x3 x4 x5 : Option V), σ = [some (.ref a), some (.ref D), x2, x3, x4, x5] ∧ LdS H D n (fun k F => ∃ F0, (Ca.ClF as F0 ∨ u + 1 ≤ F0.length) ∧ Ca.Tn n as k F0 F i) xss H3)
          ⟨xss, _, _, _, _, rfl, ⟨L.s, L.l, L.p.mono fun k F _ _ h => ⟨F, h.2, .start h.1⟩, L.ne⟩⟩ ?_ ?_ ?_
        · rintro i σ H3 _ ⟨_, _, _, _, _, rfl, z⟩
          exact SqT.of (z.s _ _ ht)
        · rintro i x σ H3 hx ⟨xss, x2, x3, x4, x5, rfl, L⟩
          obtain ⟨p, hpi, rfl⟩ := get_map hx
          have il : i < as.length := by rw [← lps]; exact (List.getElem?_eq_some_iff.mp hpi).1
          have hai : as[i]? = some as[i] := List.getElem?_eq_getElem il
          generalize as[i] = ar at hai
          refine ⟨p, _, rfl, SqT.of (L.s _ _ (har i p ar hpi hai)), rfl, _, _, rfl, _, _, rfl, rfl, ?_⟩
          refine ⟨_, rfl, a, _, _, iv n, rfl, rfl, SqT.of (L.s _ _ hwa), atI_nat (j := 0) rfl, (n : Int), rfl, (bnd n4).1, (bnd n4).2, ?_⟩
          refine for_range (lo := 0) (n := (n : Int).toNat) (fun j σ H4 => ∃ (xss : List (List Nat)) (x2 x3 : Option V), σ = [some (.ref a), some (.ref D), x2, x3, some (iv ar.1), some (iv ar.2)] ∧ LdS H D n (fun k F => ∃ F0, (Ca.ClF as F0 ∨ u + 1 ≤ F0.length) ∧ Ca.Tn n as k F0 F (if k < j then i + 1 else i)) xss H4)
            ⟨xss, _, _, rfl, ⟨L.s, L.l, L.p.mono fun k F _ _ h => by rw [if_neg (Nat.not_lt_zero k)]; exact h, L.ne⟩⟩ ?_ ?_
          · rintro j σ H4 hj ⟨xss, x2, x3, rfl, L⟩
            have jn : j < n := by omega
            rw [show V.int (0 + (j : Int)) = iv j by rw [Int.zero_add]; rfl]
            obtain ⟨ls, e4, al⟩ := L.l
            have gj : xss[j]? = some (xss[j]'(by rw [L.p.1]; exact jn)) := List.getElem?_eq_getElem _
            generalize (xss[j]'(by rw [L.p.1]; exact jn)) = Fj at gj
            obtain ⟨F0, h0, T⟩ := L.p.2 j Fj gj
            rw [if_neg (Nat.lt_irrefl j)] at T
            obtain ⟨pj, hpj, lj⟩ := al.at_ gj
            have lj' : H4 pj = some (.lst (Fj.map iv)) := lj
            have atj : (ls.map V.ref)[j]? = some (.ref pj) := by rw [List.getElem?_map, hpj]; rfl
            -- nothing is written
            have stay : (ar.1 ∈ Fj → ar.2 ∈ Fj) → LdS H D n (fun k F => ∃ F0, (Ca.ClF as F0 ∨ u + 1 ≤ F0.length) ∧ Ca.Tn n as k F0 F (if k < j + 1 then i + 1 else i)) xss H4 := fun hh => ⟨L.s, L.l, L.p.mono fun k F _ hk h => by
              by_cases c : k = j
              · subst c
                rw [if_pos (Nat.lt_succ_self k)]
                rw [gj] at hk
                cases hk
                exact ⟨F0, h0, T.skip hai hh⟩
              · by_cases c2 : k < j
                · rw [if_pos c2] at h
                  rw [if_pos (by omega)]
                  exact h
                · rw [if_neg c2] at h
                  rw [if_neg (by omega)]
                  exact h, L.ne⟩
            refine ⟨_, rfl, _, rfl, _, rfl, D, _, _, .ref pj, rfl, rfl, SqL.of e4, atI_nat atj, pj, _, rfl, .inl (SqL.of lj'), rfl, flat_iv _, _, rfl, ?_⟩
            show (if inV (iv ar.1) (Fj.map iv) = true then _ else _)
            rw [inV_iv]
            by_cases h1 : ar.1 ∈ Fj
            · rw [decide_eq_true h1]
              refine iteT ⟨_, rfl, _, rfl, _, rfl, D, _, _, .ref pj, rfl, rfl, SqL.of e4, atI_nat atj, pj, _, rfl, .inl (SqL.of lj'), rfl, flat_iv _, _, rfl, ?_⟩
              show (if (!inV (iv ar.2) (Fj.map iv)) = true then _ else _)
              rw [inV_iv]
              by_cases h2 : ar.2 ∈ Fj
              · rw [decide_eq_true h2]
                exact iteF ⟨xss, _, _, rfl, stay fun _ => h2⟩
              · rw [decide_eq_false h2]
                have fl := T.gd.len
                refine iteT ⟨_, rfl, _, rfl, D, _, _, .ref pj, rfl, rfl, SqL.of e4, atI_nat atj, _, rfl, (by show 1 ≤ sizeLine; decide), fun p1 np1 => ?_⟩
                have s5 : Same H4 (upd H4 p1 (.lst [iv ar.2])) := same_new np1
                refine ⟨pj, p1, _, _, rfl, rfl, s5 _ _ lj', upd_same, Nat.le_trans (by rw [List.length_map]; show _ + 1 ≤ 5; omega) (show 5 ≤ sizeLine by decide), fun p2 np2 => ?_⟩
                have s6 := s5.trans (same_new (o := .lst (Fj.map iv ++ [iv ar.2])) np2)
                refine ⟨p2, (Fj ++ [ar.2]).map fun (x : Nat) => (x : Int), rfl, ?_, ?_, fun ns p3 pm up np3 => ?_⟩
                · rw [← int_iv, ← iv_snoc]
                  exact SqL.of upd_same
                · rw [List.length_map, List.length_append, List.length_singleton]; omega
                have s7 := s6.trans (same_new (o := .lst (ns.map V.int)) np3)
                -- the new list
                have nd2 : (Fj ++ [ar.2]).Nodup := by
                  rw [List.nodup_append]
                  exact ⟨T.gd.nd, by simp, fun x hx y hy z => h2 (by rw [← List.mem_singleton.mp hy, ← z]; exact hx)⟩
                have lt2 : ∀ x ∈ Fj ++ [ar.2], x < n := fun x hx => by
                  rcases List.mem_append.mp hx with z | z
                  · exact (T.gd.in_ x z).1
                  · rw [List.mem_singleton.mp z]
                    exact (W.ok _ (List.mem_of_getElem? hai)).2.1
                have ascG : ((List.range n).filter fun x => decide (x ∈ Fj ++ [ar.2])).Pairwise (· < ·) := List.pairwise_lt_range.sublist List.filter_sublist
                have memG : ∀ x, x ∈ (List.range n).filter (fun x => decide (x ∈ Fj ++ [ar.2])) ↔ x ∈ Fj ++ [ar.2] := fun x => by
                  rw [List.mem_filter, List.mem_range, decide_eq_true_eq]
                  exact ⟨fun z => z.2, fun z => ⟨lt2 x z, z⟩⟩
                have ens := Ca.asc_one pm up nd2 ascG fun x => (memG x).symm
                generalize (List.range n).filter (fun x => decide (x ∈ Fj ++ [ar.2])) = G at ascG memG ens
                have lG : upd (upd (upd H4 p1 (.lst [iv ar.2])) p2 (.lst (Fj.map iv ++ [iv ar.2]))) p3 (.lst (ns.map V.int)) p3 = some (.lst (G.map iv)) := by rw [upd_same, ens, ← int_iv]
                have hD7 := s7 _ _ e4
                have p3D : p3 ≠ D := (ne_of_none (s6 _ _ e4) np3).symm
                have llen : (ls.map V.ref).length = n := by rw [List.length_map, al.1, L.p.1]
                refine ⟨_, rfl, _, rfl, D, _, _, j, rfl, rfl, hD7, ixN_nat' (by rw [llen]; exact jn), ?_⟩
                have es : (ls.map V.ref).set j (.ref p3) = (ls.set j p3).map V.ref := by rw [List.map_set]
                rw [es]
                have neD := L.ne ls e4
                refine ⟨xss.set j G, _, _, rfl, ⟨fun c o e => ?_, ⟨ls.set j p3, upd_same, AllAt.set (al.mono fun c hc xs g => ?_) ?_⟩, Ca.AllN.set L.p (by rw [if_pos (Nat.lt_succ_self j)]; exact ⟨F0, h0, T.add W.ok hai h1 h2 ascG fun x => by rw [memG]; simp⟩) (fun k F hk h => by
                  by_cases c2 : k < j
                  · rw [if_pos c2] at h
                    rw [if_pos (by omega)]
                    exact h
                  · rw [if_neg c2] at h
                    rw [if_neg (by omega)]
                    exact h), fun ls' e' c hc => ?_⟩⟩
                · rw [upd_ne (ne_of_none e hD)]
                  exact s7 _ _ (L.s _ _ e)
                · show upd _ D _ c = _
                  rw [upd_ne (neD c hc)]
                  exact s7 _ _ g
                · show upd _ D _ p3 = _
                  rw [upd_ne p3D]
                  exact lG
                · rw [upd_same] at e'
                  have z : (ls.set j p3).map V.ref = ls'.map V.ref := by injection e' with z; injection z
                  rw [← ref_inj z] at hc
                  rcases List.mem_or_eq_of_mem_set hc with y | y
                  · exact neD c y
                  · rw [y]; exact p3D
            · rw [decide_eq_false h1]
              exact iteF (iteF ⟨xss, _, _, rfl, stay fun z => absurd z h1⟩)
          · rintro σ H4 ⟨xss, x2, x3, rfl, L⟩
            refine ⟨xss, _, _, _, _, rfl, ⟨L.s, L.l, L.p.mono fun k F kn _ h => ?_, L.ne⟩⟩
            rw [en, if_pos kn] at h
            exact h
        · rintro σ H3 ⟨xss, x2, x3, x4, x5, rfl, L⟩
          refine ⟨xss, _, _, _, _, rfl, ⟨L.s, L.l, L.p.mono fun k F _ _ h => ?_, L.ne⟩⟩
          obtain ⟨F0, h0, T⟩ := h
          rw [List.length_map, lps] at T
          exact ⟨T.gd, T.end_ h0⟩
      · rintro σ H2 ⟨xss, x2, x3, x4, x5, rfl, L⟩
        rw [en] at L
        have ex : xss = leds n as := by
          refine List.ext_getElem? fun i => ?_
          by_cases il : i < n
          · have g : xss[i]? = some (xss[i]'(by rw [L.p.1]; exact il)) := List.getElem?_eq_getElem _
            have h := L.p.2 i _ g
            rw [leds_at il, ← h.1.done h.2]
            exact g
          · rw [List.getElem?_eq_none (by rw [L.p.1]; omega), List.getElem?_eq_none (by unfold leds; rw [List.length_map, List.length_range]; omega)]
        refine ⟨_, rfl, q _ D L.s ?_⟩
        rw [← ex]
        exact L.l
end
end CaW

set_option Elab.async false
set_option linter.all false
set_option maxRecDepth 100000
/-! The law's own parts: _law_parts. -/
namespace Ca
theorem head_part_asc (n : Nat) (as : Arrs) : (partsL n as).Pairwise fun x y => x.headD 0 < y.headD 0 := by
  unfold partsL
  rw [List.pairwise_map]
  have h : (heads n as).Pairwise (· < ·) := List.pairwise_lt_range.sublist List.filter_sublist
  refine h.imp_of_mem fun {a b} ha hb lt => ?_
  have e1 : (part n as a).headD 0 = a := (mem_heads.mp ha).2
  have e2 : (part n as b).headD 0 = b := (mem_heads.mp hb).2
  rw [e1, e2]
  exact lt
theorem part_ne {n : Nat} {as : Arrs} {P : List Nat} (h : P ∈ partsL n as) : P ≠ [] := by
  obtain ⟨p, hp, rfl⟩ := mem_partsL.mp h
  exact List.ne_nil_of_mem (mem_part.mpr ⟨hp, .refl p⟩)
theorem head_inj {n : Nat} {as : Arrs} {P R : List Nat} (hP : P ∈ partsL n as) (hR : R ∈ partsL n as) (h : P.headD 0 = R.headD 0) : P = R := by
  unfold partsL at hP hR
  obtain ⟨p, hp, rfl⟩ := List.mem_map.mp hP
  obtain ⟨r, hr, rfl⟩ := List.mem_map.mp hR
  have e1 : (part n as p).headD 0 = p := (mem_heads.mp hp).2
  have e2 : (part n as r).headD 0 = r := (mem_heads.mp hr).2
  rw [e1, e2] at h
  rw [h]
theorem parts_eq {n : Nat} {as : Arrs} {ys : List (List Nat)} (h1 : ys.Pairwise fun x y => x.headD 0 < y.headD 0) (h2 : ∀ y, y ∈ ys ↔ y ∈ partsL n as) : ys = partsL n as := by
  have h3 := head_part_asc n as
  have nd1 : ys.Nodup := h1.imp fun h e => by rw [e] at h; omega
  have nd2 : (partsL n as).Nodup := h3.imp fun h e => by rw [e] at h; omega
  exact List.Perm.eq_of_pairwise (fun a b _ _ x y => by omega) h1 h3 ((List.perm_ext_iff_of_nodup nd1 nd2).mpr h2)
end Ca
namespace CaW
open PySem L2 CaR
def cI (xs : List Nat) : List Int := xs.map fun (x : Nat) => (x : Int)
theorem cI_inj : ∀ {xs ys : List Nat}, cI xs = cI ys → xs = ys
  | [], [], _ => rfl
  | [], _ :: _, h => by simp [cI] at h
  | _ :: _, [], h => by simp [cI] at h
  | x :: xs, y :: ys, h => by
    obtain ⟨h1, h2⟩ := List.cons.inj h
    have h1 : ((x : Nat) : Int) = (y : Int) := h1
    rw [cI_inj h2, show x = y by omega]
theorem rows_of_at {H : Hp} : ∀ {ps : List Addr} {xss : List (List Nat)}, AllAt DialAt H ps xss → ∃ L : List Rw, ps.map V.ref = L.map (fun p => V.ref p.1) ∧ L.map (·.2) = xss.map cI ∧ ∀ b ∈ L, H b.1 = some (.tup (b.2.map V.int))
  | [], [], _ => ⟨[], rfl, rfl, fun _ h => nomatch h⟩
  | [], _ :: _, h => by have := h.1; simp at this
  | _ :: _, [], h => by have := h.1; simp at this
  | p :: ps, xs :: xss, h => by
    obtain ⟨L, l1, l2, l3⟩ := rows_of_at (H := H) (ps := ps) (xss := xss) ⟨by simpa using h.1, fun i q ys a b => h.2 (i + 1) q ys (by simpa using a) (by simpa using b)⟩
    refine ⟨(p, cI xs) :: L, by rw [List.map_cons, List.map_cons, l1], by rw [List.map_cons, List.map_cons, l2], fun b hb => ?_⟩
    rcases List.mem_cons.mp hb with z | z
    · rw [z]
      have := h.2 0 p xs rfl rfl
      show H p = some (.tup ((cI xs).map V.int))
      unfold cI
      rw [← int_iv]
      exact this
    · exact l3 b z
theorem lift_rows {n : Nat} {as : Ca.Arrs} : ∀ {L : List Rw}, (∀ b ∈ L, ∃ Pt ∈ Ca.partsL n as, b.2 = cI Pt) → ∃ ys : List (List Nat), L.map (·.2) = ys.map cI ∧ ∀ y ∈ ys, y ∈ Ca.partsL n as
  | [], _ => ⟨[], rfl, fun _ h => nomatch h⟩
  | b :: L, h => by
    obtain ⟨ys, e, m⟩ := lift_rows fun c hc => h c (List.mem_cons_of_mem _ hc)
    obtain ⟨Pt, hp, e2⟩ := h b List.mem_cons_self
    refine ⟨Pt :: ys, by rw [List.map_cons, List.map_cons, e, e2], fun y hy => ?_⟩
    rcases List.mem_cons.mp hy with z | z
    · rw [z]; exact hp
    · exact m y z
theorem rows_asc {n : Nat} {as : Ca.Arrs} : ∀ {L : List Rw} {ys : List (List Nat)}, L.map (·.2) = ys.map cI → (∀ y ∈ ys, y ∈ Ca.partsL n as) → L.Pairwise (fun x y => rwLe x y = true) → (L.map (·.2)).Nodup → ys.Pairwise fun x y => x.headD 0 < y.headD 0
  | [], [], _, _, _, _ => .nil
  | [], _ :: _, h, _, _, _ => by simp at h
  | _ :: _, [], h, _, _, _ => by simp at h
  | b :: L, y :: ys, h, m, pw, nd => by
    rw [List.map_cons, List.map_cons] at h
    obtain ⟨h1, h2⟩ := List.cons.inj h
    obtain ⟨p1, p2⟩ := List.pairwise_cons.mp pw
    rw [List.map_cons, List.nodup_cons] at nd
    refine List.pairwise_cons.mpr ⟨fun z hz => ?_, rows_asc h2 (fun y' hy' => m y' (List.mem_cons_of_mem _ hy')) p2 nd.2⟩
    have mz := m z (List.mem_cons_of_mem _ hz)
    have my := m y List.mem_cons_self
    have hc : cI z ∈ L.map (·.2) := by rw [h2]; exact List.mem_map.mpr ⟨z, hz, rfl⟩
    obtain ⟨c, hcL, ec⟩ := List.mem_map.mp hc
    have le := p1 c hcL
    obtain ⟨ba, bs⟩ := b
    obtain ⟨ca, cs⟩ := c
    have h1' : bs = cI y := h1
    have ec' : cs = cI z := ec
    subst h1' ec'
    have ne : y.headD 0 ≠ z.headD 0 := fun e => by
      have := Ca.head_inj my mz e
      subst this
      exact nd.1 hc
    match y, z, my, mz, le, ne with
    | [], _, my, _, _, _ => exact absurd rfl (Ca.part_ne my)
    | _ :: _, [], _, mz, _, _ => exact absurd rfl (Ca.part_ne mz)
    | u :: y, v :: z, _, _, le, ne =>
      have l : ((u : Nat) : Int) ≤ (v : Int) := rwLe_head le
      have ne' : u ≠ v := ne
      show u < v
      omega
theorem pe_tupleOfK {X : Cx} {K : PySem.W.Frag} (hK : X.K = K) {a : Expr} {ta : TE} {p pos : Pos} (hg : Gl X "tuple") (hm : X.mg "tuple" = none) (ha : PE X a ta) (na : starEach [a] X.env = (false, eval a X.env) :: starEach [] X.env := by rfl) :
    PE X (.Call (.Name "tuple" p) [a] [] pos) (tThen ta (kTup K)) := by
  subst hK
  exact pe_tupleOf hg hm ha na
theorem pi_listK {X : Cx} {K : PySem.W.Frag} (hK : X.K = K) {tg l : Expr} {tl : TE} (hl : PE X l tl) : PI X tg l (iList K tl) := by
  subst hK
  exact pi_list hl
section
variable {P : Program} {w : World} {K : PySem.W.Frag} {mg : Str → Option Value} {base : Heap}
abbrev nLParts : List Str := ["_law_web_here", "_law_leads_here", "_law_k", "_law_j"]
abbrev sLParts : Stmt := topS 40
theorem scLParts : FnScope nLParts ["_law_web_here"] (defScope sLParts) := ⟨rfl, rfl, rfl, by decide +kernel, rfl, by decide +kernel, by decide +kernel⟩
def spLParts : Sp := fun vs H Q _ => ∃ (a : Addr) (n : Nat) (as : Ca.Arrs), vs = [.ref a] ∧ WebAt H a n as ∧ Wb n as ∧ ∀ (H' : Hp) (q : Addr), Same H H' → TsAt H' q (Ca.partsL n as) → Q (.ref q) H'
theorem ok_lparts {f : Addr} {fd : FuncData} (Fu : Fun K "_law_parts" "_law_parts" sLParts f fd) (B : Bt mg) (dL : Df P w K mg base 1 "_law_leads" ["_law_web_here"] spLLeads) : FnOk P w K mg base CX0 2 f fd ["_law_web_here"] spLParts := by
  refine Fu.ok scLParts (fun vs H Q E h => ?_) (fun cdv A outer s H vs Q E hr h => ?_)
  · obtain ⟨_, _, _, rfl, _⟩ := h
    rfl
  · obtain ⟨a, n, as, rfl, hw, W, q⟩ := h
    obtain ⟨t, hwa, ps, ht, lps, har⟩ := id hw
    have n4 := W.n4
    refine ⟨_, pss_cons (ps_set (i := 1) scLParts.nd rfl (.inr rfl) (pe_df dL hr (pa_cons (pv 0) pa_nil)))
      (pss_one (ps_ret (pe_callB (cr_sortSet (by rfl) (by have := hr.un; show (A.deeper _).units + 8 < _; omega)) (by rfl) B.sorted (by decide +kernel) (pa_cons (pe_callTy (cr_setOfT (by rfl) hr.units) (by rfl) B.set (by decide +kernel) (pa_cons
        (pe_lc (own := [("_law_k", 2)]) (g := gName 2) (tt := tYes) (by rfl) scLParts.nd (pi_range1 (by rfl) B.range (pa_cons (pe_ix ix_tup (pv 0) pe_int (fun _ _ => rfl)) pa_nil)) (blkOk_by (N := nLParts) (sc := defScope sLParts) (by decide +kernel))
          (fun _ _ _ _ _ => pg_name (i := 2) scLParts.nd rfl (.inr rfl)) (fun _ _ _ _ _ => pts_nil)
          (fun _ _ _ _ _ => pe_tupleOfK (K := K) rfl (by rfl) B.tuple
            (pe_lc (own := [("_law_j", 3)]) (g := gName 3) (by rfl) scLParts.nd (pi_listK (K := K) rfl (pe_ix (r := rIxL K) ix_list (pv 1) (pv 2) (fun _ _ => rfl))) (blkOk_by (N := nLParts) (sc := { kind := .function, names := [(".0", .local), ("_law_k", .cell), ("tuple", .globalImplicit), ("_law_leads_here", .cell)], isGenerator := false, isCoroutine := false }) (by decide +kernel))
              (fun _ _ _ _ _ => pg_name (i := 3) scLParts.nd rfl (.inl rfl))
              (fun _ _ _ _ _ => pts_one (pt_cmpR (r := rIn K false) op_in_seq (pv 2) (pe_ix (r := rIxL K) ix_list (pv 1) (pv 3) (fun _ _ => rfl)) (by rfl)))
              (fun _ _ _ _ _ => pv 3)))) pa_nil)) pa_nil)))), ?_⟩
    have en : (n : Int).toNat = n := by omega
    refine ⟨_, rfl, a, n, as, rfl, hw, W, fun H1 D s1 hl => ?_⟩
    obtain ⟨ls, lD, al⟩ := hl
    refine ⟨_, rfl, a, _, _, iv n, rfl, rfl, SqT.of (s1 _ _ hwa), atI_nat (j := 0) rfl, (n : Int), rfl, (bnd n4).1, (bnd n4).2, fun O hO => ?_⟩
    refine lc_range (lo := 0) (n := (n : Int).toNat) (fun i H2 => Same H1 H2 ∧ ∃ ps : List Addr, H2 O = some (.lst (ps.map V.ref)) ∧ AllAt DialAt H2 ps ((List.range i).map (Ca.part n as))) ⟨same_new hO, [], upd_same, AllAt.nil⟩ ?_ ?_
    · rintro i H2 hi ⟨s2, ps, e2, al2⟩
      have il : i < n := by omega
      have pl : ps.length = i := by rw [al2.1, List.length_map, List.length_range]
      rw [show V.int (0 + (i : Int)) = iv i by rw [Int.zero_add]; rfl]
      have lD2 := s2 _ _ lD
      have alt : AllAt ListAt H2 ls (leds n as) := al.mono fun c _ xs g => s2 _ _ g
      obtain ⟨pk, hpk, gpk⟩ := alt.at_ (leds_at il)
      refine ⟨rfl, ?_⟩
      refine ⟨_, rfl, _, rfl, D, _, _, .ref pk, rfl, rfl, SqL.of lD2, atI_nat (j := i) (by rw [List.getElem?_map, hpk]; rfl), pk, rfl, ⟨_, SqL.of gpk⟩, fun E1 hE => ?_⟩
      refine lc_list (K := K) (a := pk) (xs := (Ca.led n as i).map iv) (fun m H3 => Same H2 H3 ∧ H3 E1 = some (.lst ((((Ca.led n as i).take m).filter fun j => decide (i ∈ Ca.led n as j)).map iv))) ⟨same_new hE, upd_same⟩ (fun m H3 _ z => SqL.of (z.1 _ _ gpk)) ?_ ?_
      · rintro m v H3 hv ⟨s4, g1⟩
        obtain ⟨j, hj, rfl⟩ := get_map hv
        have jn : j < n := (Ca.mem_led.mp (List.mem_of_getElem? hj)).1
        obtain ⟨pj, hpj, gpj⟩ := alt.at_ (leds_at jn)
        refine ⟨rfl, ?_⟩
        refine ⟨_, rfl, _, rfl, _, rfl, D, _, _, .ref pj, rfl, rfl, SqL.of (s4 _ _ lD2), atI_nat (j := j) (by rw [List.getElem?_map, hpj]; rfl), pj, _, rfl, .inl (SqL.of (s4 _ _ gpj)), rfl, flat_iv _, _, rfl, ?_⟩
        show (if inV (iv i) ((Ca.led n as j).map iv) = true then _ else _)
        rw [inV_iv]
        by_cases hm : i ∈ Ca.led n as j
        · rw [decide_eq_true hm]
          refine iteT ⟨_, rfl, _, g1, ?_, fun c o e => ?_, ?_⟩
          · refine small4 (n := n) ?_ n4
            rw [List.length_map]
            refine Nat.le_trans (List.length_filter_le _ _) ?_
            rw [List.length_take]
            refine Nat.le_trans (Nat.min_le_right _ _) ?_
            exact Nat.le_trans (List.length_filter_le _ _) (by simp)
          · rw [upd_ne (ne_of_none e hE)]
            exact s4 _ _ e
          · rw [upd_same, take_snoc hj, List.filter_append, iv_snoc]
            simp [hm]
        · rw [decide_eq_false hm]
          refine iteF ⟨s4, ?_⟩
          rw [take_snoc hj, List.filter_append]
          simp [hm]
          exact g1
      · rintro H3 ⟨s4, g1⟩
        rw [List.length_map, List.take_length, Ca.part_led n as i il] at g1
        refine .inl ⟨E1, _, rfl, SqL.of g1, fun pt npt => ?_⟩
        have s5 : Same H2 (upd H3 pt (.tup ((Ca.part n as i).map iv))) := s4.trans (same_new npt)
        have ptO : pt ≠ O := (ne_of_none (s4 _ _ e2) npt).symm
        refine ⟨_, s5 _ _ e2, small4 (n := n) (by rw [List.length_map]; omega) n4, fun c o e => ?_, ps ++ [pt], ?_, ?_⟩
        · rw [upd_ne (ne_of_none e hO)]
          exact s5 _ _ (s2 _ _ e)
        · rw [upd_same, ref_snoc]
        · rw [List.range_succ, List.map_append]
          refine AllAt.snoc (al2.mono fun c hc xs g => ?_) ?_
          · show upd _ O _ c = _
            rw [upd_ne (ne_of (s5 _ _ g) (s5 _ _ e2) (fun z => nomatch z))]
            exact s5 _ _ g
          · show upd _ O _ pt = _
            rw [upd_ne ptO]
            exact upd_same
    · rintro H2 ⟨s2, ps, e2, al2⟩
      rw [en] at al2
      obtain ⟨L0, h0, h1, r0⟩ := rows_of_at al2
      have len0 : L0.length = n := by
        have := congrArg List.length h1
        simpa using this
      have mem0 : ∀ b ∈ L0, ∃ Pt ∈ Ca.partsL n as, b.2 = cI Pt := fun b hb => by
        have : b.2 ∈ L0.map (·.2) := List.mem_map.mpr ⟨b, hb, rfl⟩
        rw [h1] at this
        obtain ⟨Pt, hP, e⟩ := List.mem_map.mp this
        obtain ⟨p, hp, rfl⟩ := List.mem_map.mp hP
        exact ⟨_, Ca.mem_partsL.mpr ⟨p, List.mem_range.mp hp, rfl⟩, e.symm⟩
      refine ⟨O, L0, rfl, ?_, fun b hb => SqT.of (r0 b hb), by omega, fun sa L na sub all => ?_⟩
      · rw [← h0]
        exact SqL.of e2
      have s3 : Same H2 (upd H2 sa (SetTO P w sa L)) := same_new na
      refine ⟨sa, L, rfl, upd_same, fun b hb => SqT.of (s3 _ _ (r0 b (sub b hb))), fun b hb z => ?_, fun L' p pm nd len pw np => ?_⟩
      · obtain ⟨Pt, hP, e⟩ := mem0 b (sub b hb)
        rw [e] at z
        refine Ca.part_ne hP ?_
        cases Pt with
        | nil => rfl
        | cons _ _ => simp [cI] at z
      have s4 := s3.trans (same_new (o := .lst (L'.map rwX)) np)
      obtain ⟨ys, ey, my⟩ := lift_rows fun b hb => mem0 b (sub b (pm.mem_iff.mp hb))
      have asc := rows_asc ey my pw nd
      have eq := Ca.parts_eq asc fun y => ⟨my y, fun hy => by
        obtain ⟨k, hk, rfl⟩ := Ca.mem_partsL.mp hy
        have m1 : cI (Ca.part n as k) ∈ L0.map (·.2) := by
          rw [h1]
          exact List.mem_map.mpr ⟨_, List.mem_map.mpr ⟨k, List.mem_range.mpr hk, rfl⟩, rfl⟩
        obtain ⟨b, hb, eb⟩ := List.mem_map.mp m1
        have m2 := all b hb
        rw [eb] at m2
        have m3 : cI (Ca.part n as k) ∈ L'.map (·.2) := (pm.map (·.2)).mem_iff.mpr m2
        rw [ey] at m3
        obtain ⟨y, hy, e⟩ := List.mem_map.mp m3
        rw [← cI_inj e]
        exact hy⟩
      subst eq
      refine q _ p ((s1.trans s2).trans s4) ⟨L'.map (·.1), ?_, ?_⟩
      · rw [upd_same, List.map_map]
        rfl
      · refine ⟨?_, fun i c xs hc hx => ?_⟩
        · have := congrArg List.length ey
          simpa using this
        · obtain ⟨b, hb, rfl⟩ := get_map hc
          have e1 : (L'.map (·.2))[i]? = some b.2 := by rw [List.getElem?_map, hb]; rfl
          rw [ey, List.getElem?_map, hx] at e1
          have e2 : cI xs = b.2 := Option.some.inj e1
          have := s4 _ _ (r0 b (sub b (pm.mem_iff.mp (List.mem_of_getElem? hb))))
          show _ = some (HO.tup (xs.map iv))
          refine this.trans ?_
          rw [← e2, int_iv]
          rfl
end
end CaW

set_option Elab.async false
set_option linter.all false
set_option maxRecDepth 100000
/-! The law's own marks: _law_marks. -/
namespace CaW
open PySem L2 CaR
theorem asg_by {te : TE} {g : TG} {u : TS} {D : Ends} {σ : L2.St} {H : Hp} (h : te σ H fun v H' => g v σ H' (u D)) : tSeq (tAsg te g) u D σ H := h
section
variable {P : Program} {w : World} {K : PySem.W.Frag} {mg : Str → Option Value} {base : Heap}
abbrev nLMarks : List Str := ["_law_web_here", "_law_hours", "_law_dial_here", "_law_leads_here", "_law_found", "_law_part", "_law_flow", "_law_k", "_law_rest"]
abbrev sLMarks : Stmt := topS 42
theorem scLMarks : FnScope nLMarks ["_law_web_here", "_law_hours", "_law_dial_here"] (defScope sLMarks) := ⟨rfl, rfl, rfl, by decide +kernel, rfl, by decide +kernel, by decide +kernel⟩
def spLMarks : Sp := fun vs H Q _ => ∃ (a b : Addr) (n k : Nat) (as : Ca.Arrs) (d : List Nat), vs = [.ref a, iv k, .ref b] ∧ Inp H a b n k as d ∧ ∀ (H' : Hp) (r : Addr), Same H H' → TsAt H' r (mks n as k d) → Q (.ref r) H'
theorem ok_lmarks {f : Addr} {fd : FuncData} (Fu : Fun K "_law_marks" "_law_marks" sLMarks f fd) (B : Bt mg) (dL : Df P w K mg base 1 "_law_leads" ["_law_web_here"] spLLeads) (dP : Df P w K mg base 2 "_law_parts" ["_law_web_here"] spLParts) (dG : Df P w K mg base 1 "_law_gcd" ["_law_one", "_law_other"] spGcd) :
    FnOk P w K mg base CX0 3 f fd ["_law_web_here", "_law_hours", "_law_dial_here"] spLMarks := by
  refine Fu.ok scLMarks (fun vs H Q E h => ?_) (fun cdv A outer s H vs Q E hr h => ?_)
  · obtain ⟨_, _, _, _, _, _, rfl, _⟩ := h
    rfl
  · obtain ⟨a, b, n, k, as, d, rfl, I, q⟩ := h
    have hr1 : Room 1 _ := hr.mono (by decide)
    have n1 := I.wb.n1
    have n4 := I.wb.n4
    have kp : 0 < k := by have := I.k2; omega
    refine ⟨_, pss_cons (ps_par (i := 3) (j := 4) (by rfl) scLMarks.nd rfl rfl (by decide) rfl rfl (pa_cons (pe_df dL hr1 (pa_cons (pv 0) pa_nil)) (pa_cons (pe_lst pa_nil) pa_nil)) (by rfl))
      (pss_cons (ps_for PassesOwn.never (by rfl) (pi_list (pe_df dP hr (pa_cons (pv 0) pa_nil))) (pg_name (i := 5) scLMarks.nd rfl (.inl rfl))
        (pss_cons (ps_set (i := 6) scLMarks.nd rfl (.inl rfl) (pv 1))
        (pss_cons (ps_for PassesOwn.never (by rfl) (pi_range1 (by rfl) B.range (pa_cons (pe_ix ix_tup (pv 0) pe_int (fun _ _ => rfl)) pa_nil)) (pg_name (i := 7) scLMarks.nd rfl (.inl rfl))
          (pss_one (ps_if (PW.pt (pw_and (pt_cmpR op_in_seq (pe_ix ix_tup (pv 5) pe_int (fun _ _ => rfl)) (pe_ix ix_list (pv 3) (pv 7) (fun _ _ => rfl)) (by rfl)) (pw_and1 (pt_cmpR op_notIn_seq (pv 7) (pv 5) (by rfl)))))
            (pss_one (ps_set (i := 6) scLMarks.nd rfl (.inl rfl) (pe_df dG hr1 (pa_cons (pv 6) (pa_cons (pe_ix ix_tup (pv 2) (pv 7) (fun _ _ => rfl)) pa_nil))))) pss_nil)))
        (pss_cons (ps_set (i := 8) scLMarks.nd rfl (.inl rfl) (pe_ifExp (pt_cmpR op_eq (pe_callB call_len_seq (by rfl) B.len PySem.boot_len (pa_cons (pv 5) pa_nil)) pe_int (nomark _)) (pe_op op_mod (pe_callTy call_int1 (by rfl) B.int (by decide +kernel) (pa_cons (pe_ix ix_tup (pv 2) (pe_ix ix_tup (pv 5) pe_int (fun _ _ => rfl)) (fun _ _ => rfl)) pa_nil)) (pv 6)) (pv 6)))
        (pss_cons (ps_if (pt_cmpR op_gt (pe_callB call_len_seq (by rfl) B.len PySem.boot_len (pa_cons (pv 5) pa_nil)) pe_int (nomark _))
          (pss_one (ps_for PassesOwn.never (by rfl) (pi_tup (pv 5)) (pg_name (i := 7) scLMarks.nd rfl (.inl rfl))
            (pss_one (ps_set (i := 8) scLMarks.nd rfl (.inl rfl) (pe_df dG hr1 (pa_cons (pv 8) (pa_cons (pe_ix ix_tup (pv 2) (pv 7) (fun _ _ => rfl)) pa_nil))))))) pss_nil)
        (pss_one (ps_expr (pe_bm PySem.F.plainAttrs_list PySem.F.slot_list_append PySem.F.type_list_append mt_append (pv 4) (pa_cons (pe_tup (pa_cons (pv 6) (pa_cons (pv 8) pa_nil))) pa_nil)))))))))
      (pss_one (ps_ret (pv 4)))), ?_⟩
    have en : (n : Int).toNat = n := by omega
    obtain ⟨t, hwa, har⟩ := I.web
    have hb : H b = some (.tup (d.map iv)) := I.at_
    -- leads, found
    refine ⟨_, rfl, a, n, as, rfl, I.web, I.wb, fun H1 D s1 hl => ⟨Nat.zero_le _, fun pf npf => ⟨_, _, rfl, ?_⟩⟩⟩
    obtain ⟨ls, lD, al⟩ := hl
    have s2 : Same H1 (upd H1 pf (.lst [])) := same_new npf
    -- the parts
    refine ⟨_, rfl, a, n, as, rfl, (I.web.same s1).same s2, I.wb, fun H3 l s3 hpl => ?_⟩
    obtain ⟨cs, lcs, ac⟩ := hpl
    have s13 := s2.trans s3
    have h3 := s1.trans s13
    have e3 : H3 pf = some (.lst []) := s3 _ _ upd_same
    have Dpf : D ≠ pf := ne_of_none lD npf
    have hpl : 1 ≤ (Ca.partsL n as).length := List.length_pos_of_mem (Ca.mem_partsL.mpr ⟨0, by omega, rfl⟩)
    have lpf : l ≠ pf := fun z => by
      rw [z, e3] at lcs
      have z2 : ([] : List V) = cs.map V.ref := by injection lcs with z; injection z
      have := ac.1
      cases cs with
      | nil => rw [← this] at hpl; cases hpl
      | cons _ _ => cases z2
    have hpf : H pf = none := s1.free npf
    refine ⟨l, rfl, ⟨_, SqL.of lcs⟩, ?_⟩
    refine for_list (K := K) (a := l) (xs := cs.map V.ref) (fun i σ H4 => ∃ (rs : List Addr) (x5 x6 x7 x8 : Option V), σ = [some (.ref a), some (iv k), some (.ref b), some (.ref D), some (.ref pf), x5, x6, x7, x8] ∧ (∀ c o, H3 c = some o → c ≠ pf → H4 c = some o) ∧ H4 pf = some (.lst (rs.map V.ref)) ∧ AllAt DialAt H4 rs ((mks n as k d).take i))
      ⟨[], none, none, none, none, rfl, (fun _ _ e _ => e), e3, AllAt.nil⟩ ?_ ?_ ?_
    · rintro i σ H4 _ ⟨_, _, _, _, _, rfl, z, _⟩
      exact SqL.of (z _ _ lcs lpf)
    · rintro i x σ H4 hx ⟨rs, x5, x6, x7, x8, rfl, s4, e4, ra⟩
      obtain ⟨c, hc, rfl⟩ := get_map hx
      obtain ⟨Pt, hPt, gc⟩ := ac.of hc
      obtain ⟨p, hp, rfl⟩ := Ca.mem_partsL.mp (List.mem_of_getElem? hPt)
      have hh := Ca.hd_lt (as := as) hp
      have hev := Ca.hd_eqv (as := as) hp
      have keepT : ∀ u xs, H3 u = some (.tup xs) → H4 u = some (.tup xs) := fun u xs e => s4 _ _ e (ne_of e e3 (fun z => nomatch z))
      have c4 : H4 c = some (.tup ((Ca.part n as p).map iv)) := keepT _ _ gc
      have b4 : H4 b = some (.tup (d.map iv)) := keepT _ _ (h3 _ _ hb)
      have a4 : H4 a = some (.tup [iv n, .ref t]) := keepT _ _ (h3 _ _ hwa)
      have D4 : H4 D = some (.lst (ls.map V.ref)) := s4 _ _ (s13 _ _ lD) Dpf
      have al4 : AllAt ListAt H4 ls (leds n as) := al.mono fun u _ xs g => s4 _ _ (s13 _ _ g) (ne_of_none g npf)
      have p0 : atI ((Ca.part n as p).map iv) 0 = some (iv (Ca.hd n as p)) := atI_nat (j := 0) (by rw [List.getElem?_map, part_head hp]; rfl)
      -- flow = hours; for k in range(web[0])
      refine ⟨_, rfl, ?_⟩
      refine ⟨_, rfl, a, _, _, iv n, rfl, rfl, SqT.of a4, atI_nat (j := 0) rfl, (n : Int), rfl, (bnd n4).1, (bnd n4).2, ?_⟩
      refine for_range (lo := 0) (n := (n : Int).toNat) (fun j σ H5 => H5 = H4 ∧ ∃ (x7 : Option V), σ = [some (.ref a), some (iv k), some (.ref b), some (.ref D), some (.ref pf), some (.ref c), some (iv (Ca.gcdf (Ca.val d) k (Ca.aboveUp as (Ca.hd n as p) j))), x7, x8]) ⟨rfl, x7, rfl⟩ ?_ ?_
      · rintro j σ H5 hj ⟨rfl, y7, rfl⟩
        have jn : j < n := by omega
        rw [show V.int (0 + (j : Int)) = iv j by rw [Int.zero_add]; rfl]
        obtain ⟨pj, hpj, gpj⟩ := al4.at_ (leds_at jn)
        refine ⟨_, rfl, c, _, _, iv (Ca.hd n as p), rfl, rfl, SqT.of c4, p0, _, rfl, _, rfl, D, _, _, .ref pj, rfl, rfl, SqL.of D4, atI_nat (j := j) (by rw [List.getElem?_map, hpj]; rfl), pj, _, rfl, .inl (SqL.of gpj), rfl, flat_iv _, _, rfl, ?_⟩
        show (if inV (iv (Ca.hd n as p)) ((Ca.led n as j).map iv) = true then _ else _)
        rw [inV_iv]
        by_cases h1 : Ca.hd n as p ∈ Ca.led n as j
        · rw [decide_eq_true h1]
          have r1 := (Ca.mem_led.mp h1).2
          refine iteT ⟨_, rfl, _, rfl, c, _, rfl, .inr (SqT.of c4), rfl, flat_iv _, _, rfl, ?_⟩
          show (if (!inV (iv j) ((Ca.part n as p).map iv)) = true then _ else _)
          rw [inV_iv]
          by_cases h2 : j ∈ Ca.part n as p
          · rw [decide_eq_true h2]
            have r2 : Ca.Rch as (Ca.hd n as p) j := (hev.2.trans (Ca.mem_part.mp h2).2.1)
            refine iteF ⟨rfl, some (iv j), ?_⟩
            rw [Ca.aboveUp_no (fun z => z.2 r2)]
            rfl
          · rw [decide_eq_false h2]
            have r2 : ¬ Ca.Rch as (Ca.hd n as p) j := fun z => h2 (Ca.mem_part.mpr ⟨jn, hev.1.trans z, r1.trans hev.2⟩)
            refine iteT ⟨_, rfl, _, rfl, _, rfl, b, _, _, iv (Ca.val d j), rfl, rfl, SqT.of b4, dial_at (by rw [I.dial.len]; exact jn), _, _, rfl, rfl, some (iv j), ?_⟩
            rw [Ca.aboveUp_yes r1 r2, Ca.gcdf_snoc]
            rfl
        · rw [decide_eq_false h1]
          refine iteF (iteF ⟨rfl, some (iv j), ?_⟩)
          rw [Ca.aboveUp_no (fun z => h1 (Ca.mem_led.mpr ⟨hh, z.1⟩))]
          rfl
      · rintro σ H5 ⟨rfl, y7, rfl⟩
        rw [en, Ca.aboveUp_all]
        have fl0 : 0 < Ca.flow n as k d (Ca.hd n as p) := Ca.flow_pos kp
        have efl : Ca.gcdf (Ca.val d) k (Ca.above n as (Ca.hd n as p)) = Ca.flow n as k d (Ca.hd n as p) := rfl
        rw [efl]
        have plen := Ca.part_len_pos (as := as) hp
        have em : Ca.markP n as k d (Ca.part n as p) = (Ca.flow n as k d (Ca.hd n as p), if (Ca.part n as p).length = 1 then Ca.val d (Ca.hd n as p) % Ca.flow n as k d (Ca.hd n as p) else Ca.gcdf (Ca.val d) (Ca.flow n as k d (Ca.hd n as p)) (Ca.part n as p)) := rfl
        generalize Ca.flow n as k d (Ca.hd n as p) = fl at fl0 em
        dsimp only
        refine asg_by ?_
        refine tIf_by (fun v H6 => H6 = H5 ∧ v = iv (if (Ca.part n as p).length = 1 then Ca.val d (Ca.hd n as p) % fl else fl)) (fun Q' fin => ?_) ?_
        · refine ⟨_, rfl, c, _, rfl, .inr (SqT.of c4), rfl, _, rfl, ?_⟩
          by_cases one : (Ca.part n as p).length = 1
          · rw [decide_eq_true (show V.int (((Ca.part n as p).map iv).length : Nat) = V.int 1 by rw [List.length_map, one]; rfl)]
            refine iteT ⟨_, rfl, _, rfl, c, _, _, iv (Ca.hd n as p), rfl, rfl, SqT.of c4, p0, b, _, _, iv (Ca.val d (Ca.hd n as p)), rfl, rfl, SqT.of b4, dial_at (by rw [I.dial.len]; exact hh), .inl ⟨_, rfl, _, rfl, _, _, rfl, rfl, by omega, ?_⟩⟩
            refine fin _ _ ⟨rfl, ?_⟩
            rw [if_pos one]
            show V.int ((Ca.val d (Ca.hd n as p) : Int) % (fl : Int)) = _
            rw [emod_nat]
            rfl
          · rw [decide_eq_false (show ¬ V.int (((Ca.part n as p).map iv).length : Nat) = V.int 1 from fun z => one (by have := V.int.inj z; rw [List.length_map] at this; omega))]
            refine iteF ⟨_, rfl, fin _ _ ⟨rfl, by rw [if_neg one]⟩⟩
        · rintro v H6 ⟨rfl, rfl⟩
          refine seq_by (fun σ' H' => H' = H6 ∧ ∃ x7, σ' = [some (.ref a), some (iv k), some (.ref b), some (.ref D), some (.ref pf), some (.ref c), some (iv fl), x7, some (iv (Ca.markP n as k d (Ca.part n as p)).2)]) (fun N fin => ?_) ?_
          · refine ⟨_, rfl, c, _, rfl, .inr (SqT.of c4), _, _, rfl, rfl, _, rfl, ?_⟩
            by_cases one : (Ca.part n as p).length = 1
            · rw [decide_eq_false (show ¬ (1 : Int) < (((Ca.part n as p).map iv).length : Nat) by rw [List.length_map, one]; decide)]
              refine iteF (fin _ _ ⟨rfl, y7, ?_⟩)
              rw [em, if_pos one, if_pos one]
              rfl
            · rw [decide_eq_true (show (1 : Int) < (((Ca.part n as p).map iv).length : Nat) by rw [List.length_map]; omega)]
              refine iteT ⟨_, rfl, c, rfl, ⟨_, SqT.of c4⟩, ?_⟩
              refine for_tup (K := K) (a := c) (xs := (Ca.part n as p).map iv) (fun i σ H7 => H7 = H6 ∧ ∃ x7, σ = [some (.ref a), some (iv k), some (.ref b), some (.ref D), some (.ref pf), some (.ref c), some (iv fl), x7, some (iv (Ca.gcdf (Ca.val d) fl ((Ca.part n as p).take i)))])
                ⟨rfl, y7, ?_⟩ (fun i σ H7 _ z => by rw [z.1]; exact SqT.of c4) ?_ ?_
              · rw [if_neg one]
                rfl
              · rintro i v σ H7 hv ⟨rfl, z7, rfl⟩
                obtain ⟨j, hj, rfl⟩ := get_map hv
                have jn : j < n := (Ca.mem_part.mp (List.mem_of_getElem? hj)).1
                refine ⟨_, rfl, _, rfl, _, rfl, b, _, _, iv (Ca.val d j), rfl, rfl, SqT.of b4, dial_at (by rw [I.dial.len]; exact jn), _, _, rfl, rfl, some (iv j), ?_⟩
                rw [take_snoc hj, Ca.gcdf_snoc]
                rfl
              · rintro σ H7 ⟨rfl, z7, rfl⟩
                refine fin _ _ ⟨rfl, z7, ?_⟩
                rw [List.length_map, List.take_length, em]
                show _ = [_, _, _, _, _, _, _, _, some (iv (if (Ca.part n as p).length = 1 then _ else _))]
                rw [if_neg one]
          · rintro σ' H' ⟨rfl, z7, rfl⟩
            refine ⟨_, rfl, .inl ⟨rfl, _, SqL.of e4⟩, _, rfl, _, rfl, (by show 2 ≤ sizeLine; decide), fun u nu => ?_⟩
            have s8 : Same H' (upd H' u (.tup [iv fl, iv (Ca.markP n as k d (Ca.part n as p)).2])) := same_new nu
            have upf : u ≠ pf := (ne_of_none e4 nu).symm
            have rl : rs.length ≤ 4 := by
              rw [ra.1, List.length_take, mks_len]
              exact Nat.le_trans (Nat.min_le_right _ _) (Nat.le_trans parts_len n4)
            refine ⟨pf, _, _, rfl, rfl, s8 _ _ e4, small4 (n := 4) (by rw [List.length_map]; exact rl) (Nat.le_refl _), ?_⟩
            refine ⟨rs ++ [u], _, _, _, _, rfl, fun v o e nn => ?_, by rw [upd_same, ref_snoc], ?_⟩
            · rw [upd_ne nn]
              exact s8 _ _ (s4 _ _ e nn)
            · rw [take_snoc (mks_at hPt)]
              refine AllAt.snoc (ra.mono fun v _ xs g => ?_) ?_
              · show upd _ pf _ v = _
                rw [upd_ne (ne_of g e4 (fun z => nomatch z))]
                exact s8 _ _ g
              · show upd _ pf _ u = _
                rw [upd_ne upf, upd_same, em]
                rfl
    · rintro σ H4 ⟨rs, x5, x6, x7, x8, rfl, s4, e4, ra⟩
      have et : (mks n as k d).take (cs.map V.ref).length = mks n as k d := List.take_of_length_le (by rw [List.length_map, ac.1, mks_len]; exact Nat.le_refl _)
      rw [et] at ra
      refine ⟨_, rfl, q _ pf (fun v o e => s4 _ _ (h3 _ _ e) (ne_of_none e hpf)) ⟨rs, e4, ra⟩⟩
end
end CaW

set_option Elab.async false
set_option linter.all false
set_option maxRecDepth 100000
/-! The law. -/
namespace Ca
theorem most_pow {n k : Nat} (n1 : 1 ≤ n) (n4 : n ≤ 4) (hk : k ≤ most n) : k ^ n ≤ 1000 := by
  have h := Nat.pow_le_pow_left hk n
  refine Nat.le_trans h ?_
  have : n = 1 ∨ n = 2 ∨ n = 3 ∨ n = 4 := by omega
  rcases this with rfl | rfl | rfl | rfl <;> decide
end Ca
namespace CaW
open PySem L2 CaR
section
variable {K : PySem.W.Frag} {H H' : Hp} {r : Addr}
theorem DialAt.x {b : Addr} {d : List Nat} (h : DialAt H b d) (s : SameX r H H') (R : Row K H r) : DialAt H' b d := by
  obtain ⟨_, hr⟩ := R.lst
  exact s _ _ h (ne_of h hr (fun z => nomatch z))
theorem WebAt.x {a : Addr} {n : Nat} {as : Ca.Arrs} (h : WebAt H a n as) (s : SameX r H H') (R : Row K H r) : WebAt H' a n as := by
  obtain ⟨_, hr⟩ := R.lst
  obtain ⟨t, hwa, ps, p1, p2, p3⟩ := h
  exact ⟨t, s _ _ hwa (ne_of hwa hr (fun z => nomatch z)), ps, s _ _ p1 (ne_of p1 hr (fun z => nomatch z)), p2, fun i p e u v => s _ _ (p3 i p e u v) (ne_of (p3 i p e u v) hr (fun z => nomatch z))⟩
theorem Inp.x {a b : Addr} {n k : Nat} {as : Ca.Arrs} {d : List Nat} (I : Inp H a b n k as d) (s : SameX r H H') (R : Row K H r) : Inp H' a b n k as d := ⟨I.wb, I.k2, I.k24, I.web.x s R, I.at_.x s R, I.dial⟩
theorem FoundAt.x {D : Addr} {F : List (List Nat)} (h : FoundAt H D F) (s : SameX r H H') (R : Row K H r) : FoundAt H' D F := by
  obtain ⟨_, hr⟩ := R.lst
  obtain ⟨kvs, h1, h2⟩ := h
  exact ⟨kvs, s _ _ h1 (ne_of h1 hr (fun z => nomatch z)), h2⟩
theorem rt_tt {t : Addr} {xss : List (List Nat)} (h1 : TtAt H r xss) (h2 : TtAt H t xss) (l1 : xss.length ≤ 1000) (l2 : ∀ xs ∈ xss, xs.length ≤ 1000) : RT (RT R0) H (.ref r) (.ref t) := by
  obtain ⟨ps, e1, a1⟩ := h1
  obtain ⟨qs, e2, a2⟩ := h2
  refine ⟨r, t, _, _, rfl, rfl, e1, e2, by rw [List.length_map, List.length_map, a1.1, a2.1], by rw [List.length_map, a1.1]; exact l1, fun i u v hu hv H' s => ?_⟩
  obtain ⟨p, hp, rfl⟩ := get_map hu
  obtain ⟨q, hq, rfl⟩ := get_map hv
  obtain ⟨xs, hx, g1⟩ := a1.of hp
  have g2 := a2.2 i q xs hq hx
  refine ⟨p, q, _, _, rfl, rfl, s _ _ g1, s _ _ g2, rfl, by rw [List.length_map]; exact l2 xs (List.mem_of_getElem? hx), fun j u v hu hv H2 s2 => .inl ?_⟩
  rw [hu] at hv
  cases hv
  obtain ⟨x, _, rfl⟩ := get_map hu
  exact ⟨_, rfl, rfl⟩
end
section
variable {P : Program} {w : World} {K : PySem.W.Frag} {mg : Str → Option Value} {base : Heap}
abbrev nLaw : List Str := ["_law_script", "_law_row", "_law_web_here", "_law_hours", "_law_dial_here", "_law_known", "_law_some", "_law_other", "_law_k"]
abbrev sLaw : Stmt := topS 43
theorem scLaw : FnScope nLaw ["_law_script"] (defScope sLaw) := ⟨rfl, rfl, rfl, by decide +kernel, rfl, by decide +kernel, by decide +kernel⟩
def spLaw (K : PySem.W.Frag) : Sp := fun vs H Q _ => ∃ (sa : Addr) (ns : List Int), vs = [.ref sa] ∧ ScrAt K H sa (ns.map V.int) ∧ ∀ H', Q (.bl true) H'
/-- the defs that law calls -/
structure Dfs (P : Program) (w : World) (K : PySem.W.Frag) (mg : Str → Option Value) (base : Heap) : Prop where
  dT : Df P w K mg base 1 "_law_taken" ["_law_row", "_law_many"] (spTaken K)
  dPk : Df P w K mg base 2 "_law_pick" ["_law_row", "_law_things"] (spPick K)
  dDi : Df P w K mg base 3 "_law_dial" ["_law_row", "_law_web_here", "_law_hours"] (spLDial K)
  dSm : Df P w K mg base 4 "_law_small" ["_law_row"] (spLSmall K)
  dFr : Df P w K mg base 2 "_law_from" ["_law_web_here", "_law_hours", "_law_dial_here"] spLFrom
  dA0 : Df P w K mg base 1 "_law_alike" ["_law_found", "_law_due"] (spPair R0)
  dA2 : Df P w K mg base 3 "_law_alike" ["_law_found", "_law_due"] (spPair (RT (RT R0)))
  dCC : Df P w K mg base 6 "come_count" ["web", "hours", "dial"] spCome
  dMk : Df P w K mg base 6 "marks" ["web", "hours", "dial"] spMarks
  dCa : Df P w K mg base 6 "can_come" ["web", "hours", "one", "other"] spCan
  dLM : Df P w K mg base 3 "_law_marks" ["_law_web_here", "_law_hours", "_law_dial_here"] spLMarks
theorem ok_law {f : Addr} {fd : FuncData} (Fu : Fun K "law" "law" sLaw f fd) (B : Bt mg) (D : Dfs P w K mg base) : FnOk P w K mg base CX0 7 f fd ["_law_script"] (spLaw K) := by
  obtain ⟨dT, dPk, dDi, dSm, dFr, dA0, dA2, dCC, dMk, dCa, dLM⟩ := D
  refine Fu.ok scLaw (fun vs H Q E h => ?_) (fun cdv A outer s H vs Q E hr h => ?_)
  · obtain ⟨_, _, rfl, _⟩ := h
    rfl
  · obtain ⟨sa, ns, rfl, hS, q⟩ := h
    have hr1 : Room 1 _ := hr.mono (by decide)
    have hr2 : Room 2 _ := hr.mono (by decide)
    have hr3 : Room 3 _ := hr.mono (by decide)
    have hr4 : Room 4 _ := hr.mono (by decide)
    have hu : (A.deeper (PyProof.Rows.envOfC (Str.ofString "law") (defScope sLaw) s.heap.objs.size f cdv)).units + 1 < cLine := by have := hr.un; omega
    refine ⟨_, pss_cons (ps_set (i := 1) scLaw.nd rfl (.inr rfl) (pe_lst (pa_cons (pv 0) (pa_cons pe_int (pa_cons pe_int (pa_cons pe_int pa_nil))))))
      (pss_cons (ps_asg (pe_df dSm hr4 (pa_cons (pv 1) pa_nil)) (pg_tup rfl (pgs_cons (pg_name (i := 2) scLaw.nd rfl (.inl rfl)) (pgs_cons (pg_name (i := 3) scLaw.nd rfl (.inr rfl)) (pgs_cons (pg_name (i := 4) scLaw.nd rfl (.inl rfl)) pgs_nil)))))
      (pss_cons (ps_set (i := 5) scLaw.nd rfl (.inl rfl) (pe_df dFr hr2 (pa_cons (pv 2) (pa_cons (pv 3) (pa_cons (pv 4) pa_nil)))))
      (pss_cons (ps_if (pt_not (pt_val (pe_df dA0 hr1 (pa_cons (pe_df dCC hr (pa_cons (pv 2) (pa_cons (pv 3) (pa_cons (pv 4) pa_nil)))) (pa_cons (pe_callB call_len_dT (by rfl) B.len PySem.boot_len (pa_cons (pv 5) pa_nil)) pa_nil))))) pss_never pss_nil)
      (pss_cons (ps_if (pt_not (pt_val (pe_df dA2 hr3 (pa_cons (pe_df dMk hr (pa_cons (pv 2) (pa_cons (pv 3) (pa_cons (pv 4) pa_nil)))) (pa_cons (pe_tupleOf (by rfl) B.tuple (pe_df dLM hr3 (pa_cons (pv 2) (pa_cons (pv 3) (pa_cons (pv 4) pa_nil))))) pa_nil))))) pss_never pss_nil)
      (pss_cons (ps_set (i := 6) scLaw.nd rfl (.inl rfl) (pe_lst (pa_cons (pe_df dDi hr3 (pa_cons (pv 1) (pa_cons (pv 2) (pa_cons (pv 3) pa_nil))))
          (pa_cons (pe_df dPk hr2 (pa_cons (pv 1) (pa_cons (pe_callB (cr_sortKeys (by rfl) (by have := hr.un; show (A.deeper _).units + 8 < _; omega)) (by rfl) B.sorted (by decide +kernel) (pa_cons (pe_bm0 PySem.F.plainAttrs_dict PySem.F.slot_dict_keys PySem.F.type_dict_keys mt_keysT (pv 5)) pa_nil)) pa_nil))) pa_nil))))
      (pss_cons (ps_set (i := 6) scLaw.nd rfl (.inl rfl) (pe_op op_cat (pv 6) (pe_lst (pa_cons (pe_tupleOf (by rfl) B.tuple
          (pe_lc (own := [("_law_k", 8)]) (g := gName 8) (tt := tYes) (by rfl) scLaw.nd (pi_range1 (by rfl) B.range (pa_cons (pe_ix ix_tup (pv 2) pe_int (fun _ _ => rfl)) pa_nil)) (blkOk_by (N := nLaw) (sc := defScope sLaw) (by decide +kernel))
            (fun _ _ _ _ _ => pg_name (i := 8) scLaw.nd rfl (.inl rfl)) (fun _ _ _ _ _ => pts_nil) (fun _ _ _ _ _ => pe_df dT hr1 (pa_cons (pv 1) (pa_cons (pv 3) pa_nil))))) pa_nil))))
      (pss_cons (ps_for PassesOwn.never (by rfl) (pi_list (pv 6)) (pg_name (i := 7) scLaw.nd rfl (.inl rfl))
        (pss_cons (ps_if (pt_not (pt_val (pe_df dA0 hr1 (pa_cons (pe_df dCa hr (pa_cons (pv 2) (pa_cons (pv 3) (pa_cons (pv 4) (pa_cons (pv 7) pa_nil))))) (pa_cons (pe_cmp (pc_din hu (pv 7) (pv 5)) (by rfl)) pa_nil))))) pss_never pss_nil)
        (pss_one (ps_if (pt_cmpR op_ne (pe_cmpR (op_eqD hr.units) (pe_df dLM hr3 (pa_cons (pv 2) (pa_cons (pv 3) (pa_cons (pv 7) pa_nil)))) (pe_df dLM hr3 (pa_cons (pv 2) (pa_cons (pv 3) (pa_cons (pv 4) pa_nil)))) (nomark _)) (pe_cmp (pc_din hu (pv 7) (pv 5)) (by rfl)) (nomark _)) pss_never pss_nil))))
      (pss_one (ps_ret pe_bl))))))))), ?_⟩
    -- row
    refine ⟨_, rfl, (by show 4 ≤ sizeLine; decide), fun r nr => ?_⟩
    have sr : Same H (upd H r (.lst [.ref sa, .int 0, .int 9904, .int 0])) := same_new nr
    have R1 : Row K (upd H r (.lst [.ref sa, .int 0, .int 9904, .int 0])) r := ⟨sa, ns, 0, 9904, 0, upd_same, hS.keep fun b o u e => sr _ _ e, Int.le_refl _, by decide, by decide⟩
    -- web, hours, dial
    refine ⟨_, rfl, r, rfl, R1, fun H2 p a b n k as d x2 R2 I2 km hp => ?_⟩
    have n1 := I2.wb.n1
    have n4 := I2.wb.n4
    have k2 := I2.k2
    have k24 := I2.k24
    have kp : 0 < k := by omega
    have hd := I2.dial
    have ok := I2.wb.ok
    refine ⟨p, _, rfl, SqT.of hp, rfl, _, _, rfl, _, _, rfl, _, _, rfl, rfl, ?_⟩
    -- known
    refine ⟨_, rfl, _, rfl, _, rfl, a, b, n, k, as, d, rfl, I2, fun H3 D F s3 f3 nd mem => ?_⟩
    have R3 := R2.same s3
    have I3 := I2.same s3
    have mem2 : ∀ e, e ∈ F ↔ Ca.IsDial n k e ∧ Ca.marksL n as k e = Ca.marksL n as k d := fun e => (mem e).trans (Ca.rea_marks kp ok hd)
    have cnt := Ca.count kp ok hd nd mem
    -- come_count
    refine ⟨_, rfl, _, rfl, _, rfl, a, b, n, k, as, d, rfl, I3, km, fun H4 s4 => ?_⟩
    have f4 := f3.same s4
    obtain ⟨kvs, hk, ek, vk⟩ := id f4
    refine ⟨_, rfl, D, kvs, rfl, hk, _, _, rfl, .inl ⟨_, rfl, ?_⟩, fun H5 s5 => ⟨_, rfl, iteF ?_⟩⟩
    · rw [FoundAt.len ek, cnt]
      rfl
    have R5 := (R3.same s4).same s5
    have I5 := (I3.same s4).same s5
    have f5 := f4.same s5
    -- marks
    refine ⟨_, rfl, _, rfl, _, rfl, a, b, n, k, as, d, rfl, I5, fun H6 m s6 hm => ?_⟩
    refine ⟨_, rfl, _, rfl, _, rfl, a, b, n, k, as, d, rfl, I5.same s6, fun H7 l s7 hl => ?_⟩
    obtain ⟨ls, l1, al⟩ := hl
    refine .inl ⟨l, _, rfl, SqL.of l1, fun t nt => ?_⟩
    have s8 : Same H7 (upd H7 t (.tup (ls.map V.ref))) := same_new nt
    have mk1000 : (mks n as k d).length ≤ 1000 := by
      rw [mks_len]
      exact Nat.le_trans parts_len (by omega)
    have mk2 : ∀ xs ∈ mks n as k d, xs.length ≤ 1000 := fun xs hx => by
      unfold mks at hx
      obtain ⟨z, _, rfl⟩ := List.mem_map.mp hx
      show 2 ≤ 1000
      decide
    refine ⟨_, _, rfl, rt_tt (hm.same (s7.trans s8)) (TsAt.tup l1 al nt) mk1000 mk2, fun H9 s9 => ⟨_, rfl, iteF ?_⟩⟩
    have s59 := ((s6.trans s7).trans s8).trans s9
    have R9 := R5.same s59
    have I9 := I5.same s59
    have f9 := f5.same s59
    -- some
    refine ⟨_, rfl, _, rfl, _, rfl, r, a, n, k, as, rfl, R9, I9.web, ⟨n1, n4, k2, k24⟩, fun H10 b2 d2 x10 R10 hb2 hd2 => ?_⟩
    have I10 := I9.x x10 R9
    have f10 := f9.x x10 R9
    obtain ⟨kvs10, hk10, ek10, _⟩ := id f10
    refine ⟨_, rfl, _, rfl, .inr (.inr (.inl ⟨rfl, .inr ⟨_, hk10⟩⟩)), D, kvs10, rfl, rfl, hk10, fun vw nvw => ?_⟩
    have sv : Same H10 (upd H10 vw (keysO vw D)) := same_new nvw
    refine ⟨vw, D, kvs10, F.map cI, rfl, upd_same, sv _ _ hk10, ?_, ?_, fun L kl hL lL nkl => ?_⟩
    · rw [ek10, List.map_map]
      refine List.map_congr_left fun e _ => ?_
      show kD e = (cI e).map kI
      unfold kD cI
      rw [List.map_map]
      rfl
    · intro c hc
      obtain ⟨e, he, rfl⟩ := List.mem_map.mp hc
      have le := ((mem2 e).mp he).1.len
      intro z
      have : (cI e).length = 0 := by rw [z]; rfl
      unfold cI at this
      rw [List.length_map] at this
      omega
    have s11 := sv.trans (same_new (o := .lst (L.map rwX)) nkl)
    have R11 := R10.same s11
    obtain ⟨orr, hrr⟩ := (R10.same sv).there
    have klr : kl ≠ r := (ne_of_none hrr nkl).symm
    have LF : (L.map rwX).length = F.length := by rw [List.length_map, lL, List.length_map]
    have dF : d ∈ F := (mem d).mpr (.refl d)
    have F1 : 1 ≤ F.length := List.length_pos_of_mem dF
    have F2 : F.length ≤ 1000 := by
      have B : Ca.Bfs k as d F := ⟨nd, fun e he => (mem e).mp he, dF⟩
      exact Nat.le_trans (B.len kp hd) (Ca.most_pow n1 n4 km)
    refine ⟨r, kl, _, rfl, R11, upd_same, klr, by omega, by omega, fun H12 v x12 R12 hv => ?_⟩
    obtain ⟨bw, hbw, rfl⟩ := List.mem_map.mp hv
    obtain ⟨hb1, hb2'⟩ := hL bw hbw
    obtain ⟨e3, he3, ee3⟩ := List.mem_map.mp hb1
    have hd3 := ((mem2 e3).mp he3).1
    have at3 : DialAt (upd H10 vw (keysO vw D)) bw.1 e3 := by
      show _ = some (HO.tup (e3.map iv))
      refine hb2'.trans ?_
      rw [← ee3, int_iv]
      rfl
    have at3' : DialAt H12 bw.1 e3 := DialAt.x (DialAt.same at3 (same_new nkl)) x12 R11
    have at2' : DialAt H12 b2 d2 := DialAt.x (hb2.same s11) x12 R11
    have I12 := (I10.same s11).x x12 R11
    have f12 := (f10.same s11).x x12 R11
    refine ⟨(by show 2 ≤ sizeLine; decide), fun so nso => ?_⟩
    have s13 : Same H12 (upd H12 so (.lst [.ref b2, rwX bw])) := same_new nso
    have R13 := R12.same s13
    have I13 := I12.same s13
    obtain ⟨orr2, hrr2⟩ := R12.there
    have sor : so ≠ r := (ne_of_none hrr2 nso).symm
    obtain ⟨t3, hwa3, _⟩ := I13.web
    -- some + [..]
    refine ⟨_, rfl, _, rfl, a, _, _, iv n, rfl, rfl, SqT.of hwa3, atI_nat (j := 0) rfl, (n : Int), rfl, (bnd n4).1, (bnd n4).2, fun E1 hE => ?_⟩
    obtain ⟨orr3, hrr3⟩ := R13.there
    have Er : E1 ≠ r := (ne_of_none hrr3 hE).symm
    have up2 : ∀ H' o, SameX r (upd H12 so (.lst [.ref b2, rwX bw])) H' → SameX r (upd H12 so (.lst [.ref b2, rwX bw])) (upd H' E1 o) := fun H' o sx c u e nn => by
      rw [upd_ne (ne_of_none e hE)]
      exact sx _ _ e nn
    refine lc_range (lo := 0) (n := (n : Int).toNat) (fun i H4 => SameX r (upd H12 so (.lst [.ref b2, rwX bw])) H4 ∧ Row K H4 r ∧ ∃ xs : List Nat, H4 E1 = some (.lst (xs.map iv)) ∧ xs.length = i ∧ ∀ x ∈ xs, x < k) ⟨up2 _ _ (SameX.refl _ _), R13.same (same_new hE), [], upd_same, rfl, fun _ z => nomatch z⟩ ?_ ?_
    · rintro i H14 hi ⟨x14, R14, ys, e14, len14, bd14⟩
      refine ⟨rfl, ?_⟩
      refine ⟨_, rfl, _, rfl, r, k, rfl, R14, by omega, by omega, fun H15 t15 x15 R15 lt15 => ?_⟩
      have e15 := x15 _ _ e14 Er
      refine ⟨_, e15, small4 (n := n) (by rw [List.length_map]; omega) n4, up2 _ _ (x14.trans x15), R15.put e15 Er, ys ++ [t15], ?_, ?_, ?_⟩
      · rw [upd_same, List.map_append]; rfl
      · rw [List.length_append, List.length_singleton]; omega
      · intro x hx
        rcases List.mem_append.mp hx with z | z
        · exact bd14 x z
        · rw [List.mem_singleton.mp z]; exact lt15
    · rintro H14 ⟨x14, R14, d4, e14, len14, bd14⟩
      have hd4 : Ca.IsDial n k d4 := ⟨by omega, bd14⟩
      refine .inl ⟨E1, _, rfl, SqL.of e14, fun tp ntp => ?_⟩
      have s15 : Same H14 (upd H14 tp (.tup (d4.map iv))) := same_new ntp
      refine ⟨(by show 1 ≤ sizeLine; decide), fun l2 nl2 => ?_⟩
      have s16 := s15.trans (same_new (o := .lst [.ref tp]) nl2)
      refine ⟨so, l2, _, _, rfl, rfl, s16 _ _ (x14 _ _ upd_same sor), upd_same, (by show 3 ≤ sizeLine; decide), fun l3 nl3 => ?_⟩
      have s17 := s16.trans (same_new (o := .lst ([.ref b2, rwX bw] ++ [.ref tp])) nl3)
      have I17 := (I13.x x14 R13).same s17
      have f17 := ((f12.same s13).x x14 R13).same s17
      have at2 := (DialAt.x (at2'.same s13) x14 R13).same s17
      have at3 := (DialAt.x (at3'.same s13) x14 R13).same s17
      have at4 : DialAt (upd (upd (upd H14 tp (.tup (d4.map iv))) l2 (.lst [.ref tp])) l3 (.lst ([.ref b2, rwX bw] ++ [.ref tp]))) tp d4 := (same_new nl3) _ _ ((same_new nl2) _ _ upd_same)
      have e17 : (upd (upd (upd H14 tp (.tup (d4.map iv))) l2 (.lst [.ref tp])) l3 (.lst ([.ref b2, rwX bw] ++ [.ref tp]))) l3 = some (.lst [.ref b2, .ref bw.1, .ref tp]) := upd_same
      generalize (upd (upd (upd H14 tp (.tup (d4.map iv))) l2 (.lst [.ref tp])) l3 (.lst ([.ref b2, rwX bw] ++ [.ref tp]))) = H17 at I17 f17 at2 at3 at4 e17
      -- for other in some
      refine ⟨_, rfl, l3, rfl, ⟨_, SqL.of e17⟩, ?_⟩
      refine for_list (K := K) (a := l3) (xs := [.ref b2, .ref bw.1, .ref tp]) (fun i σ H5 => Same H17 H5 ∧ ∃ x7, σ = [some (.ref sa), some (.ref r), some (.ref a), some (iv k), some (.ref b), some (.ref D), some (.ref l3), x7, none]) ⟨Same.refl _, none, rfl⟩ (fun i σ H5 _ z => SqL.of (z.1 _ _ e17)) ?_ ?_
      · rintro i x σ H5 hx ⟨s18, x7, rfl⟩
        obtain ⟨c, e, rfl, hc, he⟩ : ∃ (c : Addr) (e : List Nat), x = .ref c ∧ DialAt H17 c e ∧ Ca.IsDial n k e := by
          match i, hx with
          | 0, hx => exact ⟨b2, d2, (Option.some.inj hx).symm, at2, hd2⟩
          | 1, hx => exact ⟨bw.1, e3, (Option.some.inj hx).symm, at3, hd3⟩
          | 2, hx => exact ⟨tp, d4, (Option.some.inj hx).symm, at4, hd4⟩
          | i + 3, hx => simp at hx
        have I18 := I17.same s18
        -- can_come
        refine ⟨_, rfl, _, rfl, _, rfl, _, rfl, a, b, c, n, k, as, d, e, rfl, I18, hc.same s18, he, fun H19 s19 => ?_⟩
        have s1719 := s18.trans s19
        obtain ⟨kv, hkv, ekv, _⟩ := f17.same s1719
        have hcK : H19 c = some (.tup ((kD e).map kV)) := by rw [kD_kV]; exact s1719 _ _ hc
        have ein := valV_found e ekv
        have edec : decide (Ca.marksL n as k d = Ca.marksL n as k e) = decide (e ∈ F) := decide_eq_decide.mpr ⟨fun z => (mem2 e).mpr ⟨he, z.symm⟩, fun z => ((mem2 e).mp z).2.symm⟩
        refine ⟨_, rfl, _, rfl, D, _, rfl, DGet.t hkv hcK, _, _, rfl, .inr ⟨_, rfl, ?_⟩, fun H20 s20 => ⟨_, rfl, iteF ?_⟩⟩
        · rw [ein, edec]
        have s1720 := s1719.trans s20
        -- the marks
        have I20 := I17.same s1720
        refine ⟨_, rfl, _, rfl, _, rfl, a, c, n, k, as, e, rfl, ⟨I20.wb, I20.k2, I20.k24, I20.web, hc.same s1720, he⟩, fun H21 u s21 hu1 => ?_⟩
        refine ⟨_, rfl, _, rfl, _, rfl, a, b, n, k, as, d, rfl, I20.same s21, fun H22 u2 s22 hu2 => ?_⟩
        have s1722 := (s1720.trans s21).trans s22
        refine ⟨_, _, (hu1.same s22).dp, hu2.dp, shaped_dT _, shaped_dT _, ?_⟩
        have ev : PyData.eqv (.list (CaW.dT (mks n as k e))) (.list (CaW.dT (mks n as k d))) = decide (e ∈ F) := by
          show PyData.eqvAll _ _ = _
          rw [eqv_dT]
          exact decide_eq_decide.mpr ⟨fun z => (mem2 e).mpr ⟨he, map_pr_inj z⟩, fun z => by unfold mks; rw [((mem2 e).mp z).2]⟩
        rw [ev]
        obtain ⟨kv2, hkv2, ekv2, _⟩ := f17.same s1722
        have hcK2 : H22 c = some (.tup ((kD e).map kV)) := by rw [kD_kV]; exact s1722 _ _ hc
        have ein2 := valV_found e ekv2
        refine ⟨_, rfl, _, rfl, D, _, rfl, DGet.t hkv2 hcK2, rfl, _, rfl, ?_⟩
        rw [ein2, decide_eq_true rfl]
        exact iteF ⟨s1722, _, rfl⟩
      · rintro σ H5 ⟨s18, x7, rfl⟩
        exact q _
end
end CaW

set_option Elab.async false
set_option linter.all false
set_option maxRecDepth 100000
/-! What the top has written; the law's own head. -/
namespace CaW
open PySem L2 CaR
/-- a def of the top -/
structure DAt (K : PySem.W.Frag) (x : Str) (st : Stmt) : Prop where
  ex : ∃ (f : Addr) (fd : FuncData), PySem.W.nsIn K mainGlobals x = some (some (.ref f)) ∧ Fun K x x st f fd
theorem dat_mk {K : PySem.W.Frag} {x : Str} {st : Stmt} {f : Addr} {oc : Value} {od an : Option Addr} {osl : Array (Option Value)} {kV doc pm cdv ct : Value} (a : PySem.W.nsIn K mainGlobals x = some (some (.ref f))) (l : K.lookup f = some ⟨oc, od, .func (PySem.W.fnOf x x (defArgs st) (defBody st) (defScope st) .none kV doc pm an cdv ct), osl⟩)
    (c : PySem.W.codeIn K cdv x = true) (k : PySem.W.keepIn K (.ref f) = true) : DAt K x st := ⟨f, _, a, fun_mk l c k⟩
theorem df_mk {P : Program} {w : World} {K : PySem.W.Frag} {mg : Str → Option Value} {base h : Heap} {k : Nat} {x : Str} {st : Stmt} {ps : List Str} {sp : Sp} (X : K.In h) (G : h.Ns mainGlobals mg) (D : DAt K x st)
    (b : ∀ (kV doc pm : Value) (an : Option Addr) (cdv ct : Value) (us : List Value), us.length = ps.length → bindArgs (PySem.W.fnOf x x (defArgs st) (defBody st) (defScope st) .none kV doc pm an cdv ct) ⟨us, []⟩ = pure (ps.zip us))
    (ok : ∀ f fd, Fun K x x st f fd → FnOk P w K mg base CX0 k f fd ps sp) : Df P w K mg base k x ps sp := by
  obtain ⟨f, fd, a, F⟩ := D.ex
  exact ⟨f, fd, PySem.W.mg_of X G a, F.kp, F.binds b, ok f fd F⟩
set_option maxHeartbeats 0 in
theorem all_mk {l : PySem.W.OpenLaw} {w : World} {K : PySem.W.Frag} {h : Heap} {mg : Str → Option Value} {fa : Addr} (X : K.In h) (G : h.Ns mainGlobals mg) (hfa : mg "law" = some (.ref fa))
    {t1 t2 t3 : Tok}
    (z0 : PySem.W.nsIn K mainGlobals "isinstance" = some none)
    (z1 : PySem.W.nsIn K mainGlobals "int" = some none)
    (z2 : PySem.W.nsIn K mainGlobals "bool" = some none)
    (z3 : PySem.W.nsIn K mainGlobals "str" = some none)
    (z4 : PySem.W.nsIn K mainGlobals "tuple" = some none)
    (z5 : PySem.W.nsIn K mainGlobals "list" = some none)
    (z6 : PySem.W.nsIn K mainGlobals "len" = some none)
    (z7 : PySem.W.nsIn K mainGlobals "range" = some none)
    (z8 : PySem.W.nsIn K mainGlobals "abs" = some none)
    (z9 : PySem.W.nsIn K mainGlobals "sorted" = some none)
    (z10 : PySem.W.nsIn K mainGlobals "set" = some none)
    (z11 : PySem.W.nsIn K mainGlobals "enumerate" = some none)
    (c1 : PySem.W.nsIn K mainGlobals "MOST_CLOCKS" = some (some (.int 7 t1))) (c2 : PySem.W.nsIn K mainGlobals "LEAST_HOURS" = some (some (.int 2 t2))) (c3 : PySem.W.nsIn K mainGlobals "MOST_HOURS" = some (some (.int 24 t3)))
    (d0 : DAt K "is_in" sIsIn)
    (d1 : DAt K "gcd" sGcd)
    (d2 : DAt K "is_arrow" sIsArrow)
    (d3 : DAt K "need_hours" sNHours)
    (d4 : DAt K "need_dial" sNDial)
    (d5 : DAt K "need_web" sNWeb)
    (d6 : DAt K "need_all" sNAll)
    (d7 : DAt K "led_from" sLed)
    (d8 : DAt K "parts_in" sParts)
    (d9 : DAt K "above_in" sAbove)
    (d10 : DAt K "flow_in" sFlow)
    (d11 : DAt K "mark_of" sMark)
    (d12 : DAt K "marks_in" sMarksIn)
    (d13 : DAt K "marks" sMarks)
    (d14 : DAt K "can_come" sCan)
    (d15 : DAt K "prime_to" sPrime)
    (d16 : DAt K "ways_of" sWays)
    (d17 : DAt K "count_with" sCount)
    (d18 : DAt K "come_count" sCome)
    (d19 : DAt K "_law_taken" sTaken)
    (d20 : DAt K "_law_pick" sPick)
    (d21 : DAt K "_law_web" sLWeb)
    (d22 : DAt K "_law_dial" sLDial)
    (d23 : DAt K "_law_small" sLSmall)
    (d24 : DAt K "_law_step" sLStep)
    (d25 : DAt K "_law_from" sLFrom)
    (d26 : DAt K "_law_alike" sAlike)
    (d27 : DAt K "_law_leads" sLLeads)
    (d28 : DAt K "_law_parts" sLParts)
    (d29 : DAt K "_law_gcd" sLGcd)
    (d30 : DAt K "_law_marks" sLMarks)
    (dl : DAt K "law" sLaw) :
    ∃ fd : FuncData, (∀ (s : Shared) (v : Value), BindsTo s fd ⟨[v], []⟩ [("_law_script", v)]) ∧ ∀ base : Heap, K.In base → base.Ns mainGlobals mg → FnOk l.prog w K mg base CX0 7 fa fd ["_law_script"] (spLaw K) := by
  have B : Bt mg := ⟨PySem.W.mg_none_of X G z0, PySem.W.mg_none_of X G z1, PySem.W.mg_none_of X G z2, PySem.W.mg_none_of X G z3, PySem.W.mg_none_of X G z4, PySem.W.mg_none_of X G z5, PySem.W.mg_none_of X G z6, PySem.W.mg_none_of X G z7, PySem.W.mg_none_of X G z8, PySem.W.mg_none_of X G z9, PySem.W.mg_none_of X G z10, PySem.W.mg_none_of X G z11⟩
  have C : Ct mg := ⟨⟨t1, PySem.W.mg_of X G c1⟩, ⟨t2, PySem.W.mg_of X G c2⟩, ⟨t3, PySem.W.mg_of X G c3⟩⟩
  obtain ⟨f, fd, a, F⟩ := dl.ex
  have e := hfa.symm.trans (PySem.W.mg_of X G a)
  cases e
  obtain ⟨oc, od, kV, doc, pm, an, cdv, ct, osl, rfl, lk, hcd⟩ := id F.ex
  refine ⟨PySem.W.fnOf "law" "law" (defArgs sLaw) (defBody sLaw) (defScope sLaw) .none kV doc pm an cdv ct, fun s v => .of_eq rfl, fun base _ _ => ?_⟩
  have e_is_in : Df l.prog w K mg base 1 "is_in" ["value", "least", "most"] spIsIn := df_mk X G d0 (fun _ _ _ _ _ _ us hl => match us, hl with | [_, _, _], _ => rfl) fun f fd F => ok_is_in F B
  have e_gcd : Df l.prog w K mg base 1 "gcd" ["one", "other"] spGcd := df_mk X G d1 (fun _ _ _ _ _ _ us hl => match us, hl with | [_, _], _ => rfl) fun f fd F => ok_gcd F B
  have e_is_arrow : Df l.prog w K mg base 2 "is_arrow" ["value", "many"] spIsArrow := df_mk X G d2 (fun _ _ _ _ _ _ us hl => match us, hl with | [_, _], _ => rfl) fun f fd F => ok_is_arrow F B e_is_in
  have e_need_hours : Df l.prog w K mg base 2 "need_hours" ["hours"] spNHours := df_mk X G d3 (fun _ _ _ _ _ _ us hl => match us, hl with | [_], _ => rfl) fun f fd F => ok_need_hours F B C e_is_in
  have e_need_dial : Df l.prog w K mg base 2 "need_dial" ["web", "hours", "dial"] spNDial := df_mk X G d4 (fun _ _ _ _ _ _ us hl => match us, hl with | [_, _, _], _ => rfl) fun f fd F => ok_need_dial F B e_is_in
  have e_need_web : Df l.prog w K mg base 3 "need_web" ["web"] spNWeb := df_mk X G d5 (fun _ _ _ _ _ _ us hl => match us, hl with | [_], _ => rfl) fun f fd F => ok_need_web F B C e_is_in e_is_arrow
  have e_need_all : Df l.prog w K mg base 4 "need_all" ["web", "hours", "dial"] spNAll := df_mk X G d6 (fun _ _ _ _ _ _ us hl => match us, hl with | [_, _, _], _ => rfl) fun f fd F => ok_need_all F e_need_web e_need_hours e_need_dial
  have e_led_from : Df l.prog w K mg base 1 "led_from" ["web", "place"] spLed := df_mk X G d7 (fun _ _ _ _ _ _ us hl => match us, hl with | [_, _], _ => rfl) fun f fd F => ok_led_from F B
  have e_parts_in : Df l.prog w K mg base 2 "parts_in" ["web"] spParts := df_mk X G d8 (fun _ _ _ _ _ _ us hl => match us, hl with | [_], _ => rfl) fun f fd F => ok_parts_in F B e_led_from
  have e_above_in : Df l.prog w K mg base 2 "above_in" ["web", "place"] spAbove := df_mk X G d9 (fun _ _ _ _ _ _ us hl => match us, hl with | [_, _], _ => rfl) fun f fd F => ok_above_in F B e_led_from
  have e_flow_in : Df l.prog w K mg base 3 "flow_in" ["web", "hours", "dial", "place"] spFlow := df_mk X G d10 (fun _ _ _ _ _ _ us hl => match us, hl with | [_, _, _, _], _ => rfl) fun f fd F => ok_flow_in F e_above_in e_gcd
  have e_mark_of : Df l.prog w K mg base 4 "mark_of" ["web", "hours", "dial", "part"] spMark := df_mk X G d11 (fun _ _ _ _ _ _ us hl => match us, hl with | [_, _, _, _], _ => rfl) fun f fd F => ok_mark_of F B e_flow_in e_gcd
  have e_marks_in : Df l.prog w K mg base 5 "marks_in" ["web", "hours", "dial"] spMarksIn := df_mk X G d12 (fun _ _ _ _ _ _ us hl => match us, hl with | [_, _, _], _ => rfl) fun f fd F => ok_marks_in F e_parts_in e_mark_of
  have e_marks : Df l.prog w K mg base 6 "marks" ["web", "hours", "dial"] spMarks := df_mk X G d13 (fun _ _ _ _ _ _ us hl => match us, hl with | [_, _, _], _ => rfl) fun f fd F => ok_marks F B e_need_all e_marks_in
  have e_can_come : Df l.prog w K mg base 6 "can_come" ["web", "hours", "one", "other"] spCan := df_mk X G d14 (fun _ _ _ _ _ _ us hl => match us, hl with | [_, _, _, _], _ => rfl) fun f fd F => ok_can_come F e_need_all e_need_dial e_marks_in
  have e_prime_to : Df l.prog w K mg base 1 "prime_to" ["number", "many"] spPrime := df_mk X G d15 (fun _ _ _ _ _ _ us hl => match us, hl with | [_, _], _ => rfl) fun f fd F => ok_prime_to F B
  have e_ways_of : Df l.prog w K mg base 2 "ways_of" ["hours", "mark", "part", "dial"] spWays := df_mk X G d16 (fun _ _ _ _ _ _ us hl => match us, hl with | [_, _, _, _], _ => rfl) fun f fd F => ok_ways_of F B e_gcd e_prime_to
  have e_count_with : Df l.prog w K mg base 5 "count_with" ["web", "hours", "dial", "told"] spCount := df_mk X G d17 (fun _ _ _ _ _ _ us hl => match us, hl with | [_, _, _, _], _ => rfl) fun f fd F => ok_count_with F e_parts_in e_ways_of e_mark_of
  have e_come_count : Df l.prog w K mg base 6 "come_count" ["web", "hours", "dial"] spCome := df_mk X G d18 (fun _ _ _ _ _ _ us hl => match us, hl with | [_, _, _], _ => rfl) fun f fd F => ok_come_count F e_need_all e_count_with
  have e__law_taken : Df l.prog w K mg base 1 "_law_taken" ["_law_row", "_law_many"] (spTaken K) := df_mk X G d19 (fun _ _ _ _ _ _ us hl => match us, hl with | [_, _], _ => rfl) fun f fd F => ok_taken F B
  have e__law_pick : Df l.prog w K mg base 2 "_law_pick" ["_law_row", "_law_things"] (spPick K) := df_mk X G d20 (fun _ _ _ _ _ _ us hl => match us, hl with | [_, _], _ => rfl) fun f fd F => ok_pick F B e__law_taken
  have e__law_web : Df l.prog w K mg base 3 "_law_web" ["_law_row", "_law_most"] (spLWeb K) := df_mk X G d21 (fun _ _ _ _ _ _ us hl => match us, hl with | [_, _], _ => rfl) fun f fd F => ok_lweb F B e__law_taken e__law_pick
  have e__law_dial : Df l.prog w K mg base 3 "_law_dial" ["_law_row", "_law_web_here", "_law_hours"] (spLDial K) := df_mk X G d22 (fun _ _ _ _ _ _ us hl => match us, hl with | [_, _, _], _ => rfl) fun f fd F => ok_ldial F B e__law_taken e__law_pick
  have e__law_small : Df l.prog w K mg base 4 "_law_small" ["_law_row"] (spLSmall K) := df_mk X G d23 (fun _ _ _ _ _ _ us hl => match us, hl with | [_], _ => rfl) fun f fd F => ok_lsmall F e__law_taken e__law_web e__law_dial
  have e__law_step : Df l.prog w K mg base 1 "_law_step" ["_law_hours", "_law_dial_here", "_law_arrow"] spLStep := df_mk X G d24 (fun _ _ _ _ _ _ us hl => match us, hl with | [_, _, _], _ => rfl) fun f fd F => ok_lstep F B
  have e__law_from : Df l.prog w K mg base 2 "_law_from" ["_law_web_here", "_law_hours", "_law_dial_here"] spLFrom := df_mk X G d25 (fun _ _ _ _ _ _ us hl => match us, hl with | [_, _, _], _ => rfl) fun f fd F => ok_lfrom F e__law_step
  have e__law_alike : Df l.prog w K mg base 1 "_law_alike" ["_law_found", "_law_due"] (spPair R0) := df_mk X G d26 (fun _ _ _ _ _ _ us hl => match us, hl with | [_, _], _ => rfl) fun f fd F => ok_alike0 F B
  have e__law_leads : Df l.prog w K mg base 1 "_law_leads" ["_law_web_here"] spLLeads := df_mk X G d27 (fun _ _ _ _ _ _ us hl => match us, hl with | [_], _ => rfl) fun f fd F => ok_lleads F B
  have e__law_parts : Df l.prog w K mg base 2 "_law_parts" ["_law_web_here"] spLParts := df_mk X G d28 (fun _ _ _ _ _ _ us hl => match us, hl with | [_], _ => rfl) fun f fd F => ok_lparts F B e__law_leads
  have e__law_gcd : Df l.prog w K mg base 1 "_law_gcd" ["_law_one", "_law_other"] spGcd := df_mk X G d29 (fun _ _ _ _ _ _ us hl => match us, hl with | [_, _], _ => rfl) fun f fd F => ok_lgcd F B
  have e__law_marks : Df l.prog w K mg base 3 "_law_marks" ["_law_web_here", "_law_hours", "_law_dial_here"] spLMarks := df_mk X G d30 (fun _ _ _ _ _ _ us hl => match us, hl with | [_, _, _], _ => rfl) fun f fd F => ok_lmarks F B e__law_leads e__law_parts e__law_gcd
  have e_a1 : Df l.prog w K mg base 2 "_law_alike" ["_law_found", "_law_due"] (spPair (RT R0)) := df_mk X G d26 (fun _ _ _ _ _ _ us hl => match us, hl with | [_, _], _ => rfl) fun f fd F => ok_alikeT F B e__law_alike
  have e_a2 : Df l.prog w K mg base 3 "_law_alike" ["_law_found", "_law_due"] (spPair (RT (RT R0))) := df_mk X G d26 (fun _ _ _ _ _ _ us hl => match us, hl with | [_, _], _ => rfl) fun f fd F => ok_alikeT F B e_a1
  exact ok_law F B ⟨e__law_taken, e__law_pick, e__law_dial, e__law_small, e__law_from, e__law_alike, e_a2, e_come_count, e_marks, e_can_come, e__law_marks⟩
theorem law_sp (w : World) {K : PySem.W.Frag} (H : Hp) (a : Addr) (ns : List Int) (hO : Only H) (hS : SqL K H a (ns.map V.int)) : spLaw K [.ref a] H (fun v _ => v = .bl true) fun _ _ _ => False := by
  refine ⟨a, ns, rfl, ?_, fun _ => rfl⟩
  rcases hS with hS | hS
  · rcases hS with e | ⟨o, e⟩
    · rcases hO a with z | ⟨o, xs, z⟩
      · rw [z] at e; cases e
      · rw [z] at e; cases e
    · exact .inl ⟨o, e⟩
  · exact .inr fun H' => .inr hS
end CaW
open PySem PySem.W PyProof.Rows
set_option maxHeartbeats 0 in
theorem PySem.Challenge.cw_clockadds_k04_whole_dials_that_come_holds : PySem.Challenge.rw_clockadds_k04_whole_dials_that_come.Holds := by
  w_on; o_law; k_head; (case hw => w_witness2)
  k_fill
  refine L2.walk_of (l := PySem.Challenge.rw_clockadds_k04_whole_dials_that_come) (n := 63) (k := 7) (x := "_law_script") (CX := fun _ => L2.CX0) (sp := fun w => CaW.spLaw _) rfl (by decide) rfl ⟨rfl, by decide, by decide⟩ (fun w h Y => PySem.W.kIn_of Y) ?F (fun w H a ns _ hO hS => CaW.law_sp w H a ns hO hS) (fun _ _ _ _ _ h => h)
  case F =>
    intro w mg fa h KX G hmg
    refine' CaW.all_mk KX G hmg ?z0 ?z1 ?z2 ?z3 ?z4 ?z5 ?z6 ?z7 ?z8 ?z9 ?z10 ?z11 ?c1 ?c2 ?c3 ?d0 ?d1 ?d2 ?d3 ?d4 ?d5 ?d6 ?d7 ?d8 ?d9 ?d10 ?d11 ?d12 ?d13 ?d14 ?d15 ?d16 ?d17 ?d18 ?d19 ?d20 ?d21 ?d22 ?d23 ?d24 ?d25 ?d26 ?d27 ?d28 ?d29 ?d30 ?dl
    (case z0 => k_is)
    (case z1 => k_is)
    (case z2 => k_is)
    (case z3 => k_is)
    (case z4 => k_is)
    (case z5 => k_is)
    (case z6 => k_is)
    (case z7 => k_is)
    (case z8 => k_is)
    (case z9 => k_is)
    (case z10 => k_is)
    (case z11 => k_is)
    (case c1 => k_is)
    (case c2 => k_is)
    (case c3 => k_is)
    (case d0 => refine' CaW.dat_mk ?a ?l ?c ?k; (case a => k_is); (case l => k_is); (case c => k_is); (case k => k_is))
    (case d1 => refine' CaW.dat_mk ?a ?l ?c ?k; (case a => k_is); (case l => k_is); (case c => k_is); (case k => k_is))
    (case d2 => refine' CaW.dat_mk ?a ?l ?c ?k; (case a => k_is); (case l => k_is); (case c => k_is); (case k => k_is))
    (case d3 => refine' CaW.dat_mk ?a ?l ?c ?k; (case a => k_is); (case l => k_is); (case c => k_is); (case k => k_is))
    (case d4 => refine' CaW.dat_mk ?a ?l ?c ?k; (case a => k_is); (case l => k_is); (case c => k_is); (case k => k_is))
    (case d5 => refine' CaW.dat_mk ?a ?l ?c ?k; (case a => k_is); (case l => k_is); (case c => k_is); (case k => k_is))
    (case d6 => refine' CaW.dat_mk ?a ?l ?c ?k; (case a => k_is); (case l => k_is); (case c => k_is); (case k => k_is))
    (case d7 => refine' CaW.dat_mk ?a ?l ?c ?k; (case a => k_is); (case l => k_is); (case c => k_is); (case k => k_is))
    (case d8 => refine' CaW.dat_mk ?a ?l ?c ?k; (case a => k_is); (case l => k_is); (case c => k_is); (case k => k_is))
    (case d9 => refine' CaW.dat_mk ?a ?l ?c ?k; (case a => k_is); (case l => k_is); (case c => k_is); (case k => k_is))
    (case d10 => refine' CaW.dat_mk ?a ?l ?c ?k; (case a => k_is); (case l => k_is); (case c => k_is); (case k => k_is))
    (case d11 => refine' CaW.dat_mk ?a ?l ?c ?k; (case a => k_is); (case l => k_is); (case c => k_is); (case k => k_is))
    (case d12 => refine' CaW.dat_mk ?a ?l ?c ?k; (case a => k_is); (case l => k_is); (case c => k_is); (case k => k_is))
    (case d13 => refine' CaW.dat_mk ?a ?l ?c ?k; (case a => k_is); (case l => k_is); (case c => k_is); (case k => k_is))
    (case d14 => refine' CaW.dat_mk ?a ?l ?c ?k; (case a => k_is); (case l => k_is); (case c => k_is); (case k => k_is))
    (case d15 => refine' CaW.dat_mk ?a ?l ?c ?k; (case a => k_is); (case l => k_is); (case c => k_is); (case k => k_is))
    (case d16 => refine' CaW.dat_mk ?a ?l ?c ?k; (case a => k_is); (case l => k_is); (case c => k_is); (case k => k_is))
    (case d17 => refine' CaW.dat_mk ?a ?l ?c ?k; (case a => k_is); (case l => k_is); (case c => k_is); (case k => k_is))
    (case d18 => refine' CaW.dat_mk ?a ?l ?c ?k; (case a => k_is); (case l => k_is); (case c => k_is); (case k => k_is))
    (case d19 => refine' CaW.dat_mk ?a ?l ?c ?k; (case a => k_is); (case l => k_is); (case c => k_is); (case k => k_is))
    (case d20 => refine' CaW.dat_mk ?a ?l ?c ?k; (case a => k_is); (case l => k_is); (case c => k_is); (case k => k_is))
    (case d21 => refine' CaW.dat_mk ?a ?l ?c ?k; (case a => k_is); (case l => k_is); (case c => k_is); (case k => k_is))
    (case d22 => refine' CaW.dat_mk ?a ?l ?c ?k; (case a => k_is); (case l => k_is); (case c => k_is); (case k => k_is))
    (case d23 => refine' CaW.dat_mk ?a ?l ?c ?k; (case a => k_is); (case l => k_is); (case c => k_is); (case k => k_is))
    (case d24 => refine' CaW.dat_mk ?a ?l ?c ?k; (case a => k_is); (case l => k_is); (case c => k_is); (case k => k_is))
    (case d25 => refine' CaW.dat_mk ?a ?l ?c ?k; (case a => k_is); (case l => k_is); (case c => k_is); (case k => k_is))
    (case d26 => refine' CaW.dat_mk ?a ?l ?c ?k; (case a => k_is); (case l => k_is); (case c => k_is); (case k => k_is))
    (case d27 => refine' CaW.dat_mk ?a ?l ?c ?k; (case a => k_is); (case l => k_is); (case c => k_is); (case k => k_is))
    (case d28 => refine' CaW.dat_mk ?a ?l ?c ?k; (case a => k_is); (case l => k_is); (case c => k_is); (case k => k_is))
    (case d29 => refine' CaW.dat_mk ?a ?l ?c ?k; (case a => k_is); (case l => k_is); (case c => k_is); (case k => k_is))
    (case d30 => refine' CaW.dat_mk ?a ?l ?c ?k; (case a => k_is); (case l => k_is); (case c => k_is); (case k => k_is))
    (case dl => refine' CaW.dat_mk ?a ?l ?c ?k; (case a => k_is); (case l => k_is); (case c => k_is); (case k => k_is))
