import PyProof.Rows.All
import Wide.All
import OpenK.AllK
import Wide.FinOn
import KE.KStateDown
import HandS.Base
import HandS.Call
import HandS.List
import HandS.Comp
import HandS.Dict
import HandS.Iter
import HandS.Walk
import HandS.Zip
import HandS.Deep
import HandS.More
import HandS.Wide
import HandS.TupAny
import HandS.TupMul
import HandS.Codes
import HandS.IsInst
import HandS.Ends
import HandS.Words
import HandS.WordsList
import HandS.Evl
import HandS.Exc
import HandS.Defaults
import HandS.RaiseMore
import HandS.Lambda
import HandS.Nested
import KE.SortKeyHeap
import KE.KMinKey
import PySem.Challenge.RW_stepforms_k94_whole_indexes_multiply
import KE.GoesMore
import KE.GoesZip
import KE.GoesEnum
import HandS.Style
import HandS.SortKw
import HandS.Head0
import HandS.Head1
import HandS.Head2
import HandS.HeadEnd
import HandS.HeadHook1
import HandS.HeadHook2
import HandS.HeadHook3
import HandS.HeadHook4
import HandS.HeadWalk
set_option Elab.async false
set_option linter.all false
/-! M1: lattices of rows, rests, echelon forms. -/
namespace K94
abbrev Row := List Int
abbrev Vec := Nat → Int
/-- a row as a function, 0 beyond -/
def rf (r : Row) : Vec := fun j => r.getD j 0
theorem rf_nil : rf [] = fun _ => 0 := by funext j; simp [rf]
theorem rf_cons_zero (a : Int) (r : Row) : rf (a :: r) 0 = a := rfl
theorem rf_cons_succ (a : Int) (r : Row) (j : Nat) : rf (a :: r) (j + 1) = rf r j := rfl
theorem rf_out {r : Row} {j : Nat} (h : r.length ≤ j) : rf r j = 0 := by simp [rf, h]
theorem rf_ext {r s : Row} (hl : r.length = s.length) (h : ∀ j, rf r j = rf s j) : r = s := by
  apply List.ext_getElem hl
  intro i h1 h2
  have := h i
  simpa [rf, h1, h2] using this
theorem rf_at {r : Row} {j : Nat} {x : Int} (h : r[j]? = some x) : rf r j = x := by simp [rf, h]
theorem rf_get {r : Row} {j : Nat} (h : j < r.length) : r[j]? = some (rf r j) := by simp [rf, h]
theorem rf_zeros (w : Nat) : rf (List.replicate w 0) = fun _ => 0 := by
  funext j
  unfold rf
  rw [List.getD_eq_getElem?_getD, List.getElem?_replicate]
  split <;> rfl

/-! ### the lattice of some rows -/
inductive Lat (R : List Row) : Vec → Prop
  | zero : Lat R (fun _ => 0)
  | add {v : Vec} {r : Row} (k : Int) : Lat R v → r ∈ R → Lat R (fun j => v j + k * rf r j)
theorem Lat.of_eq {R : List Row} {u v : Vec} (h : Lat R u) (e : ∀ j, u j = v j) : Lat R v := by
  have : u = v := funext e
  rw [← this]; exact h
theorem Lat.row {R : List Row} {r : Row} (h : r ∈ R) : Lat R (rf r) := (Lat.zero.add 1 h).of_eq fun j => by simp
theorem Lat.plus {R : List Row} {u v : Vec} (hu : Lat R u) (hv : Lat R v) : Lat R (fun j => u j + v j) := by
  induction hv with
  | zero => exact hu.of_eq fun j => by simp
  | add k _ hr ih => exact (ih.add k hr).of_eq fun j => by simp [Int.add_assoc]
theorem Lat.times {R : List Row} {v : Vec} (hv : Lat R v) (k : Int) : Lat R (fun j => k * v j) := by
  induction hv with
  | zero => exact Lat.zero.of_eq fun j => by simp
  | add m _ hr ih => exact (ih.add (k * m) hr).of_eq fun j => by grind
theorem Lat.plusk {R : List Row} {u v : Vec} (hu : Lat R u) (hv : Lat R v) (k : Int) : Lat R (fun j => u j + k * v j) := hu.plus (hv.times k)
theorem Lat.minus {R : List Row} {u v : Vec} (hu : Lat R u) (hv : Lat R v) : Lat R (fun j => u j - v j) := (hu.plusk hv (-1)).of_eq fun j => by grind
theorem Lat.neg {R : List Row} {v : Vec} (hv : Lat R v) : Lat R (fun j => - v j) := (hv.times (-1)).of_eq fun j => by grind
theorem Lat.mono {R R' : List Row} {v : Vec} (h : Lat R v) (hs : ∀ r ∈ R, Lat R' (rf r)) : Lat R' v := by
  induction h with
  | zero => exact .zero
  | add k _ hr ih => exact ih.plusk (hs _ hr) k
def Sub (R R' : List Row) : Prop := ∀ r ∈ R, Lat R' (rf r)
theorem Sub.lat {R R' : List Row} (h : Sub R R') {v : Vec} (hv : Lat R v) : Lat R' v := hv.mono h
theorem Sub.refl (R : List Row) : Sub R R := fun _ h => Lat.row h
theorem Sub.trans {A B C : List Row} (h : Sub A B) (h' : Sub B C) : Sub A C := fun r hr => h'.lat (h r hr)
def Same (R R' : List Row) : Prop := Sub R R' ∧ Sub R' R
theorem Same.refl (R : List Row) : Same R R := ⟨.refl R, .refl R⟩
theorem Same.symm {R R' : List Row} (h : Same R R') : Same R' R := ⟨h.2, h.1⟩
theorem Same.trans {A B C : List Row} (h : Same A B) (h' : Same B C) : Same A C := ⟨h.1.trans h'.1, h'.2.trans h.2⟩
theorem Same.lat {R R' : List Row} (h : Same R R') {v : Vec} : Lat R v ↔ Lat R' v := ⟨h.1.lat, h.2.lat⟩
theorem Same.of_perm {R R' : List Row} (h : R.Perm R') : Same R R' := ⟨fun _ hr => Lat.row (h.mem_iff.mp hr), fun _ hr => Lat.row (h.mem_iff.mpr hr)⟩

/-! ### rests -/
/-- reduced: each number stands below what the lattice has at a first place there -/
def Red (R : List Row) (q : Vec) : Prop := ∀ v, Lat R v → ∀ j, (∀ i, i < j → v i = 0) → 0 < v j → 0 ≤ q j ∧ q j < v j
theorem Red.same {R R' : List Row} (h : Same R R') {q : Vec} (r : Red R q) : Red R' q := fun v hv => r v (h.lat.mpr hv)
theorem Red.zero (R : List Row) : Red R (fun _ => 0) := fun _ _ _ _ h => ⟨Int.le_refl _, h⟩
/-- a nonzero vector has a first place -/
theorem first_ne {v : Vec} : ∀ n, (∃ j, j < n ∧ v j ≠ 0) → ∃ j, v j ≠ 0 ∧ ∀ i, i < j → v i = 0
  | 0, ⟨_, h, _⟩ => absurd h (Nat.not_lt_zero _)
  | n + 1, ⟨j, h, hj⟩ => by
    by_cases e : ∃ i, i < n ∧ v i ≠ 0
    · exact first_ne n e
    · refine ⟨j, hj, fun i hi => ?_⟩
      by_cases z : v i = 0
      · exact z
      · exact absurd ⟨i, by omega, z⟩ e
theorem first_ne' {v : Vec} (h : ∃ j, v j ≠ 0) : ∃ j, v j ≠ 0 ∧ ∀ i, i < j → v i = 0 := by
  obtain ⟨j, hj⟩ := h
  exact first_ne (j + 1) ⟨j, Nat.lt_succ_self _, hj⟩
theorem Red.uniq {R : List Row} {p q : Vec} (hp : Red R p) (hq : Red R q) (h : Lat R (fun j => p j - q j)) (j : Nat) : p j = q j := by
  by_cases e : ∃ j, p j - q j ≠ 0
  · obtain ⟨i, hi, hb⟩ := first_ne' (v := fun j => p j - q j) e
    exfalso
    by_cases s : 0 < p i - q i
    · have h1 := hp _ h i hb s
      have h2 := hq _ h i hb s
      omega
    · have h' := h.neg
      have hb' : ∀ j, j < i → -(p j - q j) = 0 := fun j hj => by have := hb j hj; omega
      have s' : 0 < -(p i - q i) := by omega
      have h1 := hp _ h' i hb' s'
      have h2 := hq _ h' i hb' s'
      omega
  · by_cases z : p j = q j
    · exact z
    · exact absurd ⟨j, by omega⟩ e
structure IsRest (R : List Row) (p q : Vec) : Prop where
  by_ : Lat R (fun j => p j - q j)
  red : Red R q
theorem IsRest.same {R R' : List Row} (h : Same R R') {p q : Vec} (r : IsRest R p q) : IsRest R' p q := ⟨h.lat.mp r.by_, r.red.same h⟩
theorem IsRest.uniq {R : List Row} {p q q' : Vec} (h : IsRest R p q) (h' : IsRest R p q') (j : Nat) : q j = q' j :=
  h.red.uniq h'.red ((h'.by_.minus h.by_).of_eq fun j => by omega) j
theorem IsRest.self {R : List Row} {q : Vec} (h : Red R q) : IsRest R q q := ⟨Lat.zero.of_eq fun j => by omega, h⟩
theorem IsRest.nought {R : List Row} {p q : Vec} (h : IsRest R p q) : (∀ j, q j = 0) ↔ Lat R p := by
  constructor
  · intro z
    exact h.by_.of_eq fun j => by rw [z j]; omega
  · intro l j
    exact h.uniq (q' := fun _ => 0) ⟨l.of_eq fun j => by omega, Red.zero R⟩ j
/-- two points have one rest just where their difference is in the lattice -/
theorem IsRest.alike {R : List Row} {p p' q q' : Vec} (h : IsRest R p q) (h' : IsRest R p' q') : (∀ j, q j = q' j) ↔ Lat R (fun j => p j - p' j) := by
  constructor
  · intro z
    exact (h.by_.minus h'.by_).of_eq fun j => by rw [z j]; omega
  · intro l j
    exact h.uniq (q' := q') ⟨(l.plus h'.by_).of_eq fun j => by omega, h'.red⟩ j

/-! ### leads -/
/-- the first place of a number that isn't 0, or the length -/
def leadN : Row → Nat
  | [] => 0
  | a :: r => if a = 0 then leadN r + 1 else 0
theorem leadN_le : ∀ r : Row, leadN r ≤ r.length
  | [] => Nat.le_refl _
  | a :: r => by unfold leadN; split <;> simp [leadN_le r]
theorem leadN_before : ∀ (r : Row) (j : Nat), j < leadN r → rf r j = 0
  | [], j, h => absurd h (Nat.not_lt_zero _)
  | a :: r, j, h => by
    unfold leadN at h
    split at h
    · rename_i e
      cases j with
      | zero => exact e
      | succ j => exact leadN_before r j (by omega)
    · exact absurd h (Nat.not_lt_zero _)
theorem leadN_ne : ∀ (r : Row), leadN r < r.length → rf r (leadN r) ≠ 0
  | [], h => absurd h (Nat.not_lt_zero _)
  | a :: r, h => by
    unfold leadN at h ⊢
    split
    · rename_i e
      rw [if_pos e] at h
      exact leadN_ne r (by simpa using h)
    · rename_i e
      exact e
theorem leadN_eq {r : Row} {j : Nat} (hj : j < r.length) (h0 : ∀ i, i < j → rf r i = 0) (hn : rf r j ≠ 0) : leadN r = j := by
  by_cases h : leadN r < j
  · exact absurd (h0 _ h) (leadN_ne r (by omega))
  · by_cases h' : j < leadN r
    · exact absurd (leadN_before r j h') hn
    · omega
theorem leadN_all {r : Row} (h : leadN r = r.length) (j : Nat) : rf r j = 0 := by
  by_cases hj : j < leadN r
  · exact leadN_before r j hj
  · exact rf_out (by omega)
theorem leadN_full {r : Row} (h : ∀ j, rf r j = 0) : leadN r = r.length := by
  have := leadN_le r
  by_cases e : leadN r < r.length
  · exact absurd (h _) (leadN_ne r e)
  · omega

/-! ### echelon forms -/
/-- a lead's number -/
def lv (r : Row) : Int := rf r (leadN r)
/-- each row has a lead with a number above 0, the leads rise -/
structure Ech (w : Nat) (F : List Row) : Prop where
  len : ∀ f ∈ F, f.length = w
  pos : ∀ f ∈ F, leadN f < w ∧ 0 < lv f
  rise : F.Pairwise fun f g => leadN f < leadN g
theorem Ech.nil (w : Nat) : Ech w [] := ⟨by simp, by simp, .nil⟩
theorem Ech.tail {w : Nat} {f : Row} {F : List Row} (h : Ech w (f :: F)) : Ech w F :=
  ⟨fun g hg => h.len g (List.mem_cons_of_mem _ hg), fun g hg => h.pos g (List.mem_cons_of_mem _ hg), (List.pairwise_cons.mp h.rise).2⟩
theorem Ech.head {w : Nat} {f : Row} {F : List Row} (h : Ech w (f :: F)) : ∀ g ∈ F, leadN f < leadN g := (List.pairwise_cons.mp h.rise).1
theorem Ech.append {w : Nat} {F G : List Row} (hF : Ech w F) (hG : Ech w G) (h : ∀ f ∈ F, ∀ g ∈ G, leadN f < leadN g) : Ech w (F ++ G) :=
  ⟨fun f hf => (List.mem_append.mp hf).elim (hF.len f) (hG.len f), fun f hf => (List.mem_append.mp hf).elim (hF.pos f) (hG.pos f),
    List.pairwise_append.mpr ⟨hF.rise, hG.rise, h⟩⟩
/-- a lattice vector of the rows whose leads lie beyond l is 0 to l -/
theorem lat_before {F : List Row} {l : Nat} (h : ∀ f ∈ F, l < leadN f) {v : Vec} (hv : Lat F v) : ∀ i, i ≤ l → v i = 0 := by
  induction hv with
  | zero => intro i _; rfl
  | add k _ hr ih =>
    intro i hi
    have h1 := ih i hi
    have h2 := leadN_before _ i (Nat.lt_of_le_of_lt hi (h _ hr))
    simp only [h1, h2]; omega
theorem lat_cons {f : Row} {F : List Row} {v : Vec} (hv : Lat (f :: F) v) : ∃ k u, Lat F u ∧ ∀ j, v j = k * rf f j + u j := by
  induction hv with
  | zero => exact ⟨0, _, .zero, fun j => by simp⟩
  | add k hv hr ih =>
    obtain ⟨m, u, hu, e⟩ := ih
    rcases List.mem_cons.mp hr with rfl | hr
    · exact ⟨m + k, u, hu, fun j => by have := e j; grind⟩
    · exact ⟨m, _, hu.add k hr, fun j => by have := e j; grind⟩
theorem lat_nil {v : Vec} (hv : Lat [] v) (j : Nat) : v j = 0 := by
  cases hv with
  | zero => rfl
  | add k _ hr => cases hr
/-- a lattice vector's first place is a lead, its number a multiple of the lead's -/
theorem Ech.first {w : Nat} : ∀ {F : List Row}, Ech w F → ∀ {v : Vec}, Lat F v → ∀ {j : Nat}, v j ≠ 0 → (∀ i, i < j → v i = 0) → ∃ f ∈ F, leadN f = j ∧ ∃ k, v j = k * lv f
  | [], _, v, hv, j, hn, _ => absurd (lat_nil hv j) hn
  | f :: F, h, v, hv, j, hn, h0 => by
    obtain ⟨k, u, hu, e⟩ := lat_cons hv
    have hb := lat_before h.head hu
    by_cases hk : k = 0
    · subst hk
      obtain ⟨g, hg, e1, m, e2⟩ := Ech.first h.tail (v := v) (hu.of_eq fun j => by rw [e j]; omega) hn h0
      exact ⟨g, List.mem_cons_of_mem _ hg, e1, m, e2⟩
    · have el : v (leadN f) = k * lv f := by rw [e, hb _ (Nat.le_refl _)]; unfold lv; omega
      have hp := (h.pos f List.mem_cons_self).2
      have hne : v (leadN f) ≠ 0 := by
        rw [el]
        intro z
        rcases Int.mul_eq_zero.mp z with z | z <;> omega
      have ej : leadN f = j := by
        by_cases h1 : leadN f < j
        · exact absurd (h0 _ h1) hne
        · by_cases h2 : j < leadN f
          · have h3 := e j
            rw [leadN_before f j h2, hb j (by omega)] at h3
            exact absurd (by omega) hn
          · omega
      exact ⟨f, List.mem_cons_self, ej, k, by rw [← ej]; exact el⟩
/-- reduced at the leads is reduced -/
theorem Ech.red {w : Nat} {F : List Row} (h : Ech w F) {q : Vec} (hq : ∀ f ∈ F, 0 ≤ q (leadN f) ∧ q (leadN f) < lv f) : Red F q := by
  intro v hv j h0 hp
  obtain ⟨f, hf, ej, k, e⟩ := h.first hv (by omega) h0
  have h1 := hq f hf
  rw [ej] at h1
  have h2 := (h.pos f hf).2
  refine ⟨h1.1, Int.lt_of_lt_of_le h1.2 ?_⟩
  have hk : 0 < k := by
    by_cases z : 0 < k
    · exact z
    · have : k * lv f ≤ 0 := Int.mul_nonpos_of_nonpos_of_nonneg (by omega) (by omega)
      omega
  rw [e]
  have : 1 * lv f ≤ k * lv f := Int.mul_le_mul_of_nonneg_right (by omega) (by omega)
  omega
end K94

set_option Elab.async false
set_option linter.all false
/-! M2: rests by a form, the profile of a lattice, indexes. -/
namespace K94
/-- a row and another one k times -/
def addk (a b : Row) (k : Int) : Row := List.zipWith (fun x y => x + k * y) a b
theorem addk_len {a b : Row} (k : Int) (h : a.length = b.length) : (addk a b k).length = a.length := by
  unfold addk; rw [List.length_zipWith]; omega
theorem rf_addk : ∀ {a b : Row} (k : Int), a.length = b.length → ∀ j, rf (addk a b k) j = rf a j + k * rf b j
  | [], [], k, _, j => by simp [addk, rf]
  | x :: a, y :: b, k, h, 0 => by simp [addk, rf]
  | x :: a, y :: b, k, h, j + 1 => by
    have := rf_addk (a := a) (b := b) k (by simpa using h) j
    simpa [addk, rf] using this
  | [], _ :: _, _, h, _ => by simp at h
  | _ :: _, [], _, h, _ => by simp at h

/-- one step of a rest: a row that is nought takes nothing -/
def restStep (p f : Row) : Row := if leadN f < f.length then addk p f (0 - (rf p (leadN f)).fdiv (lv f)) else p
def restF (F : List Row) (p : Row) : Row := F.foldl restStep p
theorem restStep_len {p f : Row} (h : p.length = f.length) : (restStep p f).length = p.length := by
  unfold restStep; split
  · exact addk_len _ h
  · rfl
theorem restF_len : ∀ {F : List Row} {p : Row}, (∀ f ∈ F, f.length = p.length) → (restF F p).length = p.length
  | [], _, _ => rfl
  | f :: F, p, h => by
    have e := restStep_len (p := p) (f := f) (h f List.mem_cons_self).symm
    show (restF F (restStep p f)).length = _
    rw [restF_len fun g hg => by rw [e]; exact h g (List.mem_cons_of_mem _ hg), e]
theorem restF_by : ∀ {F : List Row} {p : Row}, (∀ f ∈ F, f.length = p.length) → Lat F (fun j => rf p j - rf (restF F p) j)
  | [], p, _ => Lat.zero.of_eq fun j => by show 0 = rf p j - rf p j; omega
  | f :: F, p, h => by
    have hl : p.length = f.length := (h f List.mem_cons_self).symm
    have e := restStep_len (p := p) (f := f) hl
    have h1 : Lat (f :: F) (fun j => rf p j - rf (restStep p f) j) := by
      unfold restStep
      split
      · refine ((Lat.row (R := f :: F) List.mem_cons_self).times ((rf p (leadN f)).fdiv (lv f))).of_eq fun j => ?_
        rw [rf_addk _ hl]; grind
      · exact Lat.zero.of_eq fun j => by omega
    have h2 := (restF_by (F := F) (p := restStep p f) fun g hg => by rw [e]; exact h g (List.mem_cons_of_mem _ hg)).mono (R' := f :: F) fun r hr => Lat.row (List.mem_cons_of_mem _ hr)
    exact (h1.plus h2).of_eq fun j => by show _ = rf p j - rf (restF F (restStep p f)) j; omega
/-- what stands to a place ahead of all leads stays -/
theorem restF_keep : ∀ {F : List Row} {p : Row} {l : Nat}, (∀ f ∈ F, f.length = p.length) → (∀ f ∈ F, l < leadN f) → rf (restF F p) l = rf p l
  | [], _, _, _, _ => rfl
  | f :: F, p, l, h, hl => by
    have hp : p.length = f.length := (h f List.mem_cons_self).symm
    have e := restStep_len (p := p) (f := f) hp
    show rf (restF F (restStep p f)) l = _
    rw [restF_keep (fun g hg => by rw [e]; exact h g (List.mem_cons_of_mem _ hg)) fun g hg => hl g (List.mem_cons_of_mem _ hg)]
    unfold restStep
    split
    · rw [rf_addk _ hp, leadN_before f l (hl f List.mem_cons_self)]; omega
    · rfl
theorem restF_at : ∀ {F : List Row} {p : Row}, Ech p.length F → ∀ f ∈ F, 0 ≤ rf (restF F p) (leadN f) ∧ rf (restF F p) (leadN f) < lv f
  | [], _, _, f, hf => by cases hf
  | g :: F, p, h, f, hf => by
    have hp : p.length = g.length := (h.len g List.mem_cons_self).symm
    have e := restStep_len (p := p) (f := g) hp
    have ht : Ech (restStep p g).length F := by rw [e]; exact h.tail
    show 0 ≤ rf (restF F (restStep p g)) (leadN f) ∧ rf (restF F (restStep p g)) (leadN f) < lv f
    rcases List.mem_cons.mp hf with rfl | hf
    · rw [restF_keep (fun g hg => ht.len g hg) fun g hg => h.head g hg]
      obtain ⟨h1, h2⟩ := h.pos f List.mem_cons_self
      unfold restStep
      rw [if_pos (by omega), rf_addk _ hp]
      have : rf f (leadN f) = lv f := rfl
      rw [this]
      have q := Int.mul_fdiv_add_fmod (rf p (leadN f)) (lv f)
      have q1 := Int.fmod_nonneg_of_pos (rf p (leadN f)) h2
      have q2 := Int.fmod_lt_of_pos (rf p (leadN f)) h2
      have : (0 - (rf p (leadN f)).fdiv (lv f)) * lv f = - (lv f * (rf p (leadN f)).fdiv (lv f)) := by grind
      omega
    · exact restF_at ht f hf
theorem restF_is {F : List Row} {p : Row} (h : Ech p.length F) : IsRest F (rf p) (rf (restF F p)) :=
  ⟨restF_by fun f hf => h.len f hf, h.red (restF_at h)⟩
/-- nought rows take nothing -/
theorem restF_skip : ∀ (F : List Row) (p : Row), restF F p = restF (F.filter fun f => decide (leadN f < f.length)) p
  | [], _ => rfl
  | f :: F, p => by
    rw [List.filter_cons]
    split
    · show restF F (restStep p f) = restF _ (restStep p f)
      exact restF_skip F _
    · rename_i z
      have e : restStep p f = p := by
        unfold restStep
        rw [if_neg (by simpa using z)]
      show restF F (restStep p f) = _
      rw [e]
      exact restF_skip F p

/-! ### the profile -/
def pp : List Row → Int
  | [] => 1
  | f :: F => lv f * pp F
theorem pp_pos {w : Nat} : ∀ {F : List Row}, Ech w F → 0 < pp F
  | [], _ => by decide
  | f :: F, h => Int.mul_pos (h.pos f List.mem_cons_self).2 (pp_pos h.tail)
theorem pp_foldl (F : List Row) (a : Int) : F.foldl (fun x f => x * lv f) a = a * pp F := by
  induction F generalizing a with
  | nil => simp [pp]
  | cons f F ih => rw [List.foldl_cons, ih, pp, Int.mul_assoc]
theorem sorted_sublist : ∀ {l m : List Nat}, l.Pairwise (· < ·) → m.Pairwise (· < ·) → (∀ x ∈ l, x ∈ m) → l.Sublist m
  | [], m, _, _, _ => List.nil_sublist m
  | a :: l, [], _, _, h => absurd (h a List.mem_cons_self) (by simp)
  | a :: l, b :: m, hl, hm, h => by
    obtain ⟨h1, h2⟩ := List.pairwise_cons.mp hl
    obtain ⟨h3, h4⟩ := List.pairwise_cons.mp hm
    by_cases e : a = b
    · subst e
      refine List.Sublist.cons₂ a (sorted_sublist h2 h4 fun x hx => ?_)
      rcases List.mem_cons.mp (h x (List.mem_cons_of_mem _ hx)) with rfl | z
      · exact absurd (h1 _ hx) (Nat.lt_irrefl _)
      · exact z
    · have ha : a ∈ m := by
        rcases List.mem_cons.mp (h a List.mem_cons_self) with z | z
        · exact absurd z e
        · exact z
      refine List.Sublist.cons b (sorted_sublist hl h4 fun x hx => ?_)
      rcases List.mem_cons.mp (h x hx) with rfl | z
      · rcases List.mem_cons.mp hx with z | z
        · exact absurd z.symm e
        · have := h1 _ z
          have := h3 _ ha
          omega
      · exact z
theorem Ech.sorted {w : Nat} {F : List Row} (h : Ech w F) : (F.map leadN).Pairwise (· < ·) := List.pairwise_map.mpr h.rise
/-- each lead of a lattice within another one is one there, its number a multiple -/
theorem sub_lead {w : Nat} {F G : List Row} (hF : Ech w F) (hG : Ech w G) (hs : Sub F G) : ∀ f ∈ F, ∃ g ∈ G, leadN g = leadN f ∧ ∃ k, lv f = k * lv g := by
  intro f hf
  obtain ⟨h1, h2⟩ := hF.pos f hf
  exact hG.first (hs f hf) (j := leadN f) (show rf f (leadN f) ≠ 0 by have : lv f = rf f (leadN f) := rfl; omega) fun i hi => leadN_before f i hi
theorem sub_sublist {w : Nat} {F G : List Row} (hF : Ech w F) (hG : Ech w G) (hs : Sub F G) : (F.map leadN).Sublist (G.map leadN) :=
  sorted_sublist hF.sorted hG.sorted fun x hx => by
    obtain ⟨f, hf, rfl⟩ := List.mem_map.mp hx
    obtain ⟨g, hg, e, _⟩ := sub_lead hF hG hs f hf
    exact List.mem_map.mpr ⟨g, hg, e⟩
theorem sub_len {w : Nat} {F G : List Row} (hF : Ech w F) (hG : Ech w G) (hs : Sub F G) : F.length ≤ G.length := by
  have := (sub_sublist hF hG hs).length_le
  simpa using this
theorem pp_mult {w : Nat} : ∀ {F G : List Row}, Ech w F → Ech w G → F.map leadN = G.map leadN → (∀ f ∈ F, ∃ g ∈ G, leadN g = leadN f ∧ ∃ k, lv f = k * lv g) → ∃ K, 0 < K ∧ pp F = K * pp G
  | [], [], _, _, _, _ => ⟨1, by decide, rfl⟩
  | [], _ :: _, _, _, e, _ => by simp at e
  | _ :: _, [], _, _, e, _ => by simp at e
  | f :: F, g :: G, hF, hG, e, h => by
    have e1 : leadN f = leadN g := by simpa using (List.cons.inj e).1
    have e2 : F.map leadN = G.map leadN := (List.cons.inj e).2
    obtain ⟨K, hK, eK⟩ := pp_mult hF.tail hG.tail e2 fun f' hf' => by
      obtain ⟨g', hg', z1, z2⟩ := h f' (List.mem_cons_of_mem _ hf')
      rcases List.mem_cons.mp hg' with rfl | hg'
      · have := hF.head f' hf'
        omega
      · exact ⟨g', hg', z1, z2⟩
    obtain ⟨g', hg', z1, k, z2⟩ := h f List.mem_cons_self
    have eg : g' = g := by
      rcases List.mem_cons.mp hg' with z | z
      · exact z
      · have := hG.head g' z
        omega
    subst eg
    have p1 := (hF.pos f List.mem_cons_self).2
    have p2 := (hG.pos g' List.mem_cons_self).2
    have hk : 0 < k := by
      by_cases z : 0 < k
      · exact z
      · have : k * lv g' ≤ 0 := Int.mul_nonpos_of_nonpos_of_nonneg (by omega) (by omega)
        omega
    refine ⟨k * K, Int.mul_pos hk hK, ?_⟩
    unfold pp
    rw [z2, eK]; grind
structure Form (w : Nat) (R F : List Row) : Prop where
  ech : Ech w F
  same : Same F R
theorem Form.same_of {w : Nat} {R R' F : List Row} (h : Form w R F) (s : Same R R') : Form w R' F := ⟨h.ech, h.same.trans s⟩
theorem Form.le {w : Nat} {A B F G : List Row} (hF : Form w A F) (hG : Form w B G) (hs : Sub A B) : F.length ≤ G.length :=
  sub_len hF.ech hG.ech ((hF.same.1.trans hs).trans hG.same.2)
theorem Form.mult {w : Nat} {A B F G : List Row} (hF : Form w A F) (hG : Form w B G) (hs : Sub A B) (hl : F.length = G.length) : F.map leadN = G.map leadN ∧ ∃ K, 0 < K ∧ pp F = K * pp G := by
  have s : Sub F G := (hF.same.1.trans hs).trans hG.same.2
  have e := (sub_sublist hF.ech hG.ech s).eq_of_length (by simpa using hl)
  exact ⟨e, pp_mult hF.ech hG.ech e (sub_lead hF.ech hG.ech s)⟩
theorem Form.uniq {w : Nat} {R F G : List Row} (hF : Form w R F) (hG : Form w R G) : F.length = G.length ∧ pp F = pp G := by
  have l1 := hF.le hG (Sub.refl R)
  have l2 := hG.le hF (Sub.refl R)
  have l : F.length = G.length := by omega
  obtain ⟨_, K, hK, e⟩ := hF.mult hG (Sub.refl R) l
  obtain ⟨_, M, hM, e'⟩ := hG.mult hF (Sub.refl R) l.symm
  refine ⟨l, ?_⟩
  have p := pp_pos hG.ech
  have q : 1 * pp G = (M * K) * pp G := by rw [Int.mul_assoc, ← e, ← e']; omega
  have q' : M * K = 1 := (Int.mul_eq_mul_right_iff (by omega)).mp q.symm
  have k1 : K = 1 := by
    have : K ∣ 1 := ⟨M, by rw [Int.mul_comm]; exact q'.symm⟩
    have := Int.le_of_dvd (by decide) this
    omega
  rw [e, k1]; omega

/-! ### indexes -/
def ixF (F G : List Row) : Int := if F.length ≠ G.length then 0 else (pp F).fdiv (pp G)
theorem ixF_uniq {w : Nat} {A B F F' G G' : List Row} (hF : Form w A F) (hF' : Form w A F') (hG : Form w B G) (hG' : Form w B G') : ixF F G = ixF F' G' := by
  obtain ⟨a1, a2⟩ := hF.uniq hF'
  obtain ⟨b1, b2⟩ := hG.uniq hG'
  unfold ixF
  rw [a1, a2, b1, b2]
theorem ixF_mult {w : Nat} {A B F G : List Row} (hF : Form w A F) (hG : Form w B G) (hs : Sub A B) (hl : F.length = G.length) : 0 < ixF F G ∧ pp F = ixF F G * pp G := by
  obtain ⟨_, K, hK, e⟩ := hF.mult hG hs hl
  have p := pp_pos hG.ech
  have : ixF F G = K := by
    unfold ixF
    rw [if_neg (by omega), e, Int.mul_fdiv_cancel _ (by omega)]
  rw [this]
  exact ⟨hK, e⟩
theorem ixF_self {w : Nat} {A F F' : List Row} (hF : Form w A F) (hF' : Form w A F') : ixF F F' = 1 := by
  obtain ⟨a1, a2⟩ := hF.uniq hF'
  have p := pp_pos hF'.ech
  unfold ixF
  rw [if_neg (by omega), a2, Int.fdiv_self (by omega)]
theorem ixF_trans {w : Nat} {A B C F G H : List Row} (hF : Form w A F) (hG : Form w B G) (hH : Form w C H) (h1 : Sub A B) (h2 : Sub B C) : ixF F G * ixF G H = ixF F H := by
  have l1 := hF.le hG h1
  have l2 := hG.le hH h2
  by_cases e : F.length = H.length
  · have e1 : F.length = G.length := by omega
    have e2 : G.length = H.length := by omega
    obtain ⟨p1, q1⟩ := ixF_mult hF hG h1 e1
    obtain ⟨p2, q2⟩ := ixF_mult hG hH h2 e2
    obtain ⟨p3, q3⟩ := ixF_mult hF hH (h1.trans h2) e
    have p := pp_pos hH.ech
    have : (ixF F G * ixF G H) * pp H = ixF F H * pp H := by rw [Int.mul_assoc, ← q2, ← q1, ← q3]
    exact (Int.mul_eq_mul_right_iff (by omega)).mp this
  · have z : ixF F H = 0 := by unfold ixF; rw [if_pos e]
    rw [z]
    by_cases e1 : F.length = G.length
    · have : ixF G H = 0 := by unfold ixF; rw [if_pos (by omega)]
      rw [this]; omega
    · have : ixF F G = 0 := by unfold ixF; rw [if_pos e1]
      rw [this]; omega
theorem ixF_nonneg {w : Nat} {A B F G : List Row} (hF : Form w A F) (hG : Form w B G) (hs : Sub A B) : 0 ≤ ixF F G := by
  by_cases e : F.length = G.length
  · have := (ixF_mult hF hG hs e).1; omega
  · unfold ixF; rw [if_pos e]; omega

/-! ### the unit -/
def unitRow (w k : Nat) : Row := (List.range w).map fun j => if j = k then 1 else 0
def unitRows (w : Nat) : List Row := (List.range w).map (unitRow w)
def mkRow (w : Nat) (v : Vec) : Row := (List.range w).map v
theorem mkRow_len (w : Nat) (v : Vec) : (mkRow w v).length = w := by simp [mkRow]
theorem rf_mkRow {w : Nat} {v : Vec} (j : Nat) : rf (mkRow w v) j = if j < w then v j else 0 := by
  unfold rf mkRow
  by_cases h : j < w <;> simp [h]
theorem rf_mkRow_of {w : Nat} {v : Vec} (h : ∀ j, w ≤ j → v j = 0) (j : Nat) : rf (mkRow w v) j = v j := by
  rw [rf_mkRow]
  split
  · rfl
  · exact (h j (by omega)).symm
theorem unitRow_len (w k : Nat) : (unitRow w k).length = w := by simp [unitRow]
theorem rf_unitRow {w k : Nat} (hk : k < w) (j : Nat) : rf (unitRow w k) j = if j = k then 1 else 0 := by
  have := rf_mkRow (w := w) (v := fun j => if j = k then (1 : Int) else 0) j
  show rf (mkRow w _) j = _
  rw [this]
  by_cases h : j < w
  · simp [h]
  · have : ¬ j = k := by omega
    simp [h, this]
theorem leadN_unitRow {w k : Nat} (hk : k < w) : leadN (unitRow w k) = k ∧ lv (unitRow w k) = 1 := by
  have e : leadN (unitRow w k) = k := leadN_eq (by rw [unitRow_len]; exact hk) (fun i hi => by rw [rf_unitRow hk, if_neg (by omega)]) (by rw [rf_unitRow hk, if_pos rfl]; decide)
  exact ⟨e, by unfold lv; rw [e, rf_unitRow hk, if_pos rfl]⟩
theorem unitRows_ech (w : Nat) : Ech w (unitRows w) := by
  refine ⟨fun f hf => ?_, fun f hf => ?_, ?_⟩
  · obtain ⟨k, _, rfl⟩ := List.mem_map.mp hf
    exact unitRow_len w k
  · obtain ⟨k, hk, rfl⟩ := List.mem_map.mp hf
    obtain ⟨e1, e2⟩ := leadN_unitRow (List.mem_range.mp hk)
    rw [e1, e2]
    exact ⟨List.mem_range.mp hk, by decide⟩
  · refine List.pairwise_map.mpr ((List.pairwise_lt_range).imp_of_mem fun ha hb h => ?_)
    rw [(leadN_unitRow (List.mem_range.mp ha)).1, (leadN_unitRow (List.mem_range.mp hb)).1]
    exact h
theorem pp_one : ∀ (F : List Row), (∀ f ∈ F, lv f = 1) → pp F = 1
  | [], _ => rfl
  | f :: F, h => by
    unfold pp
    rw [h f List.mem_cons_self, pp_one F fun g hg => h g (List.mem_cons_of_mem _ hg)]; rfl
theorem unitRows_pp (w : Nat) : pp (unitRows w) = 1 := pp_one _ fun f hf => by
  obtain ⟨k, hk, rfl⟩ := List.mem_map.mp hf
  exact (leadN_unitRow (List.mem_range.mp hk)).2
theorem unitRows_len (w : Nat) : (unitRows w).length = w := by simp [unitRows]
theorem lat_unit {w : Nat} {v : Vec} (h : ∀ j, w ≤ j → v j = 0) : Lat (unitRows w) v := by
  have key : ∀ n, n ≤ w → Lat (unitRows w) (fun j => if j < n then v j else 0) := by
    intro n
    induction n with
    | zero => intro _; exact Lat.zero.of_eq fun j => by simp
    | succ n ih =>
      intro hn
      have hm : unitRow w n ∈ unitRows w := List.mem_map.mpr ⟨n, List.mem_range.mpr hn, rfl⟩
      refine ((ih (by omega)).add (v n) hm).of_eq fun j => ?_
      rw [rf_unitRow (by omega)]
      by_cases e : j = n
      · subst e; simp
      · by_cases e2 : j < n
        · simp [e, e2, show j < n + 1 by omega]
        · simp [e, e2, show ¬ j < n + 1 by omega]
  refine (key w (Nat.le_refl _)).of_eq fun j => ?_
  split
  · rfl
  · exact (h j (by omega)).symm
theorem sub_unit {w : Nat} {R : List Row} (h : ∀ r ∈ R, r.length = w) : Sub R (unitRows w) := fun r hr => lat_unit fun j hj => rf_out (by rw [h r hr]; exact hj)
theorem form_unit {w : Nat} : Form w (unitRows w) (unitRows w) := ⟨unitRows_ech w, .refl _⟩
theorem ixF_unit {w : Nat} {R F G : List Row} (hF : Form w R F) (hG : Form w (unitRows w) G) : ixF F G = if F.length = w then pp F else 0 := by
  obtain ⟨a, b⟩ := hG.uniq form_unit
  unfold ixF
  rw [a, b, unitRows_len, unitRows_pp]
  by_cases e : F.length = w
  · rw [if_neg (by omega), if_pos e]; simp
  · rw [if_pos e, if_neg e]
end K94

set_option Elab.async false
set_option linter.all false
/-! M3: full rank, boxes, counts, gcd. -/
namespace K94
/-! ### full rank -/
theorem Ech.tail_of {w : Nat} {F : List Row} (h : Ech w F) : F.length ≤ w := by
  have : (F.map leadN).Sublist (List.range w) := sorted_sublist h.sorted List.pairwise_lt_range fun x hx => by
    obtain ⟨f, hf, rfl⟩ := List.mem_map.mp hx
    exact List.mem_range.mpr (h.pos f hf).1
  simpa using this.length_le
theorem Ech.leads_full {w : Nat} {F : List Row} (h : Ech w F) (hl : F.length = w) : F.map leadN = List.range w := by
  have : (F.map leadN).Sublist (List.range w) := sorted_sublist h.sorted List.pairwise_lt_range fun x hx => by
    obtain ⟨f, hf, rfl⟩ := List.mem_map.mp hx
    exact List.mem_range.mpr (h.pos f hf).1
  exact this.eq_of_length (by simpa using hl)
theorem Ech.full_mult {w : Nat} {F : List Row} (h : Ech w F) (hl : F.length = w) : ∀ d c, c + d = w → ∀ x : Vec, (∀ j, j < c → x j = 0) → (∀ j, w ≤ j → x j = 0) → ∃ n : Int, 0 < n ∧ Lat F (fun j => n * x j)
  | 0, c, e, x, h1, h2 => ⟨1, by decide, Lat.zero.of_eq fun j => by
      by_cases z : j < c
      · rw [h1 j z]; omega
      · rw [h2 j (by omega)]; omega⟩
  | d + 1, c, e, x, h1, h2 => by
    have hc : c ∈ F.map leadN := by rw [h.leads_full hl]; exact List.mem_range.mpr (by omega)
    obtain ⟨f, hf, ef⟩ := List.mem_map.mp hc
    obtain ⟨_, p⟩ := h.pos f hf
    have hb := leadN_before f
    obtain ⟨n, hn, L⟩ := Ech.full_mult h hl d (c + 1) (by omega) (fun j => lv f * x j - x c * rf f j) (fun j hj => by
      by_cases z : j = c
      · subst z
        have : rf f j = lv f := by unfold lv; rw [ef]
        rw [this]; grind
      · have z1 := h1 j (by omega)
        have z2 := hb j (by omega)
        rw [z1, z2]; omega) (fun j hj => by
        have z1 := h2 j hj
        have z2 : rf f j = 0 := rf_out (by rw [h.len f hf]; exact hj)
        rw [z1, z2]; omega)
    exact ⟨n * lv f, Int.mul_pos hn p, (L.plusk (Lat.row hf) (n * x c)).of_eq fun j => by grind⟩
theorem Form.full_mult {w : Nat} {R F : List Row} (h : Form w R F) (hl : F.length = w) {x : Vec} (hx : ∀ j, w ≤ j → x j = 0) : ∃ n : Int, 0 < n ∧ Lat R (fun j => n * x j) := by
  obtain ⟨n, hn, L⟩ := h.ech.full_mult hl w 0 (by omega) x (fun j hj => absurd hj (Nat.not_lt_zero _)) hx
  exact ⟨n, hn, h.same.lat.mp L⟩
theorem Form.full_of {w : Nat} {R F : List Row} (h : Form w R F) (hm : ∀ k, k < w → ∃ n : Int, 0 < n ∧ Lat R (fun j => n * (if j = k then 1 else 0))) : F.length = w := by
  have : (List.range w).Sublist (F.map leadN) := sorted_sublist List.pairwise_lt_range h.ech.sorted fun x hx => by
    obtain ⟨n, hn, L⟩ := hm x (List.mem_range.mp hx)
    obtain ⟨f, hf, e, _⟩ := h.ech.first (h.same.lat.mpr L) (j := x) (by rw [if_pos rfl]; omega) (fun i hi => by rw [if_neg (by omega)]; omega)
    exact List.mem_map.mpr ⟨f, hf, e⟩
  have l1 := this.length_le
  have l2 := h.ech.tail_of
  simp at l1
  omega

/-! ### lists without repeats -/
theorem nodup_le {α : Type} [DecidableEq α] : ∀ {l m : List α}, l.Nodup → (∀ x ∈ l, x ∈ m) → l.length ≤ m.length
  | [], _, _, _ => Nat.zero_le _
  | a :: l, m, hn, h => by
    obtain ⟨h1, h2⟩ := List.nodup_cons.mp hn
    have ha := h a List.mem_cons_self
    have := nodup_le (l := l) (m := m.erase a) h2 fun x hx => (List.mem_erase_of_ne (by rintro rfl; exact h1 hx)).mpr (h x (List.mem_cons_of_mem _ hx))
    rw [List.length_erase_of_mem ha] at this
    have : 0 < m.length := List.length_pos_of_mem ha
    simp only [List.length_cons]
    omega
theorem nodup_map_on {α β : Type} {f : α → β} : ∀ {l : List α}, l.Nodup → (∀ x ∈ l, ∀ y ∈ l, f x = f y → x = y) → (l.map f).Nodup
  | [], _, _ => .nil
  | a :: l, hn, h => by
    obtain ⟨h1, h2⟩ := List.nodup_cons.mp hn
    rw [List.map_cons]
    refine List.nodup_cons.mpr ⟨fun z => ?_, nodup_map_on h2 fun x hx y hy => h x (List.mem_cons_of_mem _ hx) y (List.mem_cons_of_mem _ hy)⟩
    obtain ⟨b, hb, e⟩ := List.mem_map.mp z
    exact h1 (h b (List.mem_cons_of_mem _ hb) a List.mem_cons_self e ▸ hb)
theorem inj_le {α β : Type} [DecidableEq β] {l : List α} {m : List β} (f : α → β) (hn : l.Nodup) (hm : ∀ x ∈ l, f x ∈ m) (hi : ∀ x ∈ l, ∀ y ∈ l, f x = f y → x = y) : l.length ≤ m.length := by
  have := nodup_le (nodup_map_on hn hi) (m := m) fun y hy => by
    obtain ⟨x, hx, rfl⟩ := List.mem_map.mp hy
    exact hm x hx
  simpa using this

/-! ### products of lists -/
def prodL : List (List Int) → List Row
  | [] => [[]]
  | l :: ls => l.flatMap fun x => (prodL ls).map (x :: ·)
def prodN : List Nat → Nat
  | [] => 1
  | a :: l => a * prodN l
theorem prodL_length : ∀ ls : List (List Int), (prodL ls).length = prodN (ls.map (·.length))
  | [] => rfl
  | l :: ls => by
    unfold prodL
    rw [List.length_flatMap]
    simp only [List.length_map]
    rw [List.map_cons, prodN, ← prodL_length ls]
    induction l with
    | nil => simp
    | cons a l ih => simp only [List.map_cons, List.sum_cons, List.length_cons, ih, Nat.add_mul]; omega
theorem prodL_mem : ∀ {ls : List (List Int)} {r : Row}, r ∈ prodL ls ↔ r.length = ls.length ∧ ∀ j (h : j < ls.length), rf r j ∈ ls[j]
  | [], r => by
    unfold prodL
    constructor
    · intro h
      have : r = [] := by simpa using h
      subst this
      exact ⟨rfl, fun j h => absurd h (Nat.not_lt_zero _)⟩
    · rintro ⟨h, _⟩
      have : r = [] := List.length_eq_zero_iff.mp h
      simp [this]
  | l :: ls, r => by
    unfold prodL
    rw [List.mem_flatMap]
    constructor
    · rintro ⟨x, hx, h⟩
      obtain ⟨s, hs, rfl⟩ := List.mem_map.mp h
      obtain ⟨h1, h2⟩ := prodL_mem.mp hs
      refine ⟨by simp [h1], fun j hj => ?_⟩
      cases j with
      | zero => exact hx
      | succ j => exact h2 j (by simpa using hj)
    · rintro ⟨h1, h2⟩
      cases r with
      | nil => simp at h1
      | cons x s =>
        refine ⟨x, h2 0 (by simp), List.mem_map.mpr ⟨s, prodL_mem.mpr ⟨by simpa using h1, fun j hj => ?_⟩, rfl⟩⟩
        have := h2 (j + 1) (by simpa using hj)
        simpa [rf] using this
theorem prodL_nodup : ∀ {ls : List (List Int)}, (∀ l ∈ ls, l.Nodup) → (prodL ls).Nodup
  | [], _ => by unfold prodL; simp
  | l :: ls, h => by
    unfold prodL
    have ih := prodL_nodup (ls := ls) fun m hm => h m (List.mem_cons_of_mem _ hm)
    have hl := h l List.mem_cons_self
    rw [List.nodup_iff_pairwise_ne, List.pairwise_flatMap]
    refine ⟨fun x _ => ?_, ?_⟩
    · rw [← List.nodup_iff_pairwise_ne]
      exact nodup_map_on ih fun a _ b _ e => (List.cons.inj e).2
    · refine hl.imp fun {x y} hxy => ?_
      intro a ha b hb e
      obtain ⟨s, _, rfl⟩ := List.mem_map.mp ha
      obtain ⟨t, _, rfl⟩ := List.mem_map.mp hb
      exact hxy (List.cons.inj e).1

/-! ### rests of a number -/
/-- 0 .. d - 1 as whole numbers -/
def rng (d : Int) : List Int := (List.range d.toNat).map fun (i : Nat) => ((i : Nat) : Int)
theorem rng_mem {d y : Int} : y ∈ rng d ↔ 0 ≤ y ∧ y < d := by
  unfold rng
  rw [List.mem_map]
  constructor
  · rintro ⟨i, hi, rfl⟩
    have := List.mem_range.mp hi
    omega
  · rintro ⟨h1, h2⟩
    exact ⟨y.toNat, List.mem_range.mpr (by omega), by omega⟩
theorem rng_nodup (d : Int) : (rng d).Nodup := nodup_map_on List.nodup_range fun x _ y _ e => by omega
theorem rng_length (d : Int) : (rng d).length = d.toNat := by simp [rng]
theorem dvd_iff_mul {n d : Int} (hd : 0 < d) (y : Int) : d ∣ n * y ↔ (d / (Int.gcd n d : Int)) ∣ y := by
  have hg : (0 : Int) < (Int.gcd n d : Int) := by
    have : Int.gcd n d ≠ 0 := fun z => by
      have := (Int.gcd_eq_zero_iff.mp z).2
      omega
    omega
  obtain ⟨a, ha⟩ := Int.gcd_dvd_left (a := n) (b := d)
  obtain ⟨b, hb⟩ := Int.gcd_dvd_right (a := n) (b := d)
  have eb : d / (Int.gcd n d : Int) = b := by
    conv => lhs; lhs; rw [hb]
    exact Int.mul_ediv_cancel_left b (by omega)
  rw [eb]
  have hcop : Int.gcd b a = 1 := by
    have h1 : Int.gcd ((Int.gcd n d : Int) * a) ((Int.gcd n d : Int) * b) = Int.gcd n d := by rw [← ha, ← hb]
    rw [Int.gcd_mul_left, Int.natAbs_natCast] at h1
    have h2 : Int.gcd n d * Int.gcd a b = Int.gcd n d * 1 := by omega
    rw [Int.gcd_comm]
    exact Nat.eq_of_mul_eq_mul_left (by omega) h2
  constructor
  · rintro ⟨c, hc⟩
    have : b ∣ a * y := ⟨c, by
      have : (Int.gcd n d : Int) * (a * y) = (Int.gcd n d : Int) * (b * c) := by
        rw [← Int.mul_assoc, ← ha, hc, ← Int.mul_assoc, ← hb]
      exact (Int.mul_eq_mul_left_iff (by omega)).mp this⟩
    have h2 := Int.natAbs_dvd_natAbs.mpr this
    rw [Int.natAbs_mul] at h2
    exact Int.natAbs_dvd_natAbs.mp (Nat.Coprime.dvd_of_dvd_mul_left (show Nat.gcd b.natAbs a.natAbs = 1 from hcop) h2)
  · rintro ⟨c, hc⟩
    refine ⟨a * c, ?_⟩
    rw [hc]
    conv => lhs; rw [ha]
    conv => rhs; rw [hb]
    grind
theorem mult_count (e : Nat) (he : 0 < e) : ∀ g : Nat, ((List.range (g * e)).filter fun y => decide (e ∣ y)).length = g
  | 0 => by simp
  | g + 1 => by
    have h : List.range ((g + 1) * e) = List.range (g * e) ++ (List.range e).map (g * e + ·) := by
      rw [Nat.add_mul, Nat.one_mul, List.range_add]
    rw [h, List.filter_append, List.length_append, mult_count e he g, List.filter_map, List.length_map]
    have : (List.range e).filter ((fun y => decide (e ∣ y)) ∘ (g * e + ·)) = [0] := by
      cases e with
      | zero => omega
      | succ e =>
        rw [List.range_succ_eq_map, List.filter_cons]
        have h0 : ((fun y => decide (e + 1 ∣ y)) ∘ (g * (e + 1) + ·)) 0 = true := by
          simp only [Function.comp, Nat.add_zero, decide_eq_true_eq]
          exact Nat.dvd_mul_left _ _
        rw [if_pos h0]
        congr 1
        rw [List.filter_eq_nil_iff]
        intro a ha
        obtain ⟨i, hi, rfl⟩ := List.mem_map.mp ha
        have hi := List.mem_range.mp hi
        simp only [Function.comp, decide_eq_true_eq]
        intro z
        have := (Nat.dvd_add_right (Nat.dvd_mul_left (e + 1) g)).mp z
        have := Nat.le_of_dvd (by omega) this
        omega
    rw [this]
    rfl
theorem kill_count {n d : Int} (hd : 0 < d) : ((rng d).filter fun y => decide (d ∣ n * y)).length = Int.gcd n d := by
  have hg : 0 < Int.gcd n d := by
    have : Int.gcd n d ≠ 0 := fun z => by
      have := (Int.gcd_eq_zero_iff.mp z).2
      omega
    omega
  obtain ⟨b, hb⟩ := Int.gcd_dvd_right (a := n) (b := d)
  have eb : d / (Int.gcd n d : Int) = b := by
    conv => lhs; lhs; rw [hb]
    exact Int.mul_ediv_cancel_left b (by omega)
  have hbp : 0 < b := by
    by_cases z : 0 < b
    · exact z
    · have : (Int.gcd n d : Int) * b ≤ 0 := Int.mul_nonpos_of_nonneg_of_nonpos (by omega) (by omega)
      omega
  obtain ⟨e, rfl⟩ : ∃ e : Nat, b = e := ⟨b.toNat, by omega⟩
  have ed : d.toNat = Int.gcd n d * e := by
    have : d = ((Int.gcd n d * e : Nat) : Int) := by rw [Int.natCast_mul]; exact hb
    omega
  unfold rng
  rw [List.filter_map, List.length_map, ed]
  refine Eq.trans ?_ (mult_count e (by omega) (Int.gcd n d))
  congr 1
  apply List.filter_congr
  intro y _
  simp only [Function.comp]
  apply decide_eq_decide.mpr
  rw [dvd_iff_mul hd, eb]
  exact Int.ofNat_dvd
end K94

set_option Elab.async false
set_option linter.all false
/-! M4: what rounds tell: classes, orders, killed ones; the rests gone through. -/
namespace K94
/-- no number from w on -/
def Supp (w : Nat) (x : Vec) : Prop := ∀ j, w ≤ j → x j = 0
theorem supp_rf {w : Nat} {r : Row} (h : r.length = w) : Supp w (rf r) := fun _ hj => rf_out (by omega)
theorem Lat.supp {w : Nat} {R : List Row} (hR : ∀ r ∈ R, r.length = w) {v : Vec} (h : Lat R v) : Supp w v := by
  induction h with
  | zero => intro j _; rfl
  | add k _ hr ih =>
    intro j hj
    have h1 := ih j hj
    have h2 := supp_rf (hR _ hr) j hj
    simp only [h1, h2]; omega
/-- ds: the numbers on the way down; C: what the deeds by columns make of points -/
structure Rnd (w : Nat) (R : List Row) (ds : List Int) (C : Vec → Vec) : Prop where
  len : ds.length ≤ w
  nonneg : ∀ d ∈ ds, 0 ≤ d
  chain : ds.Pairwise (· ∣ ·)
  lin : ∀ (x y : Vec) (k : Int) (j : Nat), C (fun j => x j + k * y j) j = C x j + k * C y j
  back : ∃ B : Vec → Vec, ∀ y, Supp w y → Supp w (B y) ∧ ∀ j, C (B y) j = y j
  supp : ∀ x, Supp w x → Supp w (C x)
  lat : ∀ x, Supp w x → (Lat R x ↔ ∀ k, k < w → rf ds k ∣ C x k)
section
variable {w : Nat} {R : List Row} {ds : List Int} {C : Vec → Vec}
theorem Rnd.zero (h : Rnd w R ds C) (j : Nat) : C (fun _ => 0) j = 0 := by
  have := h.lin (fun _ => 0) (fun _ => 0) (-1) j
  have e : (fun j : Nat => (0 : Int) + -1 * 0) = fun _ => 0 := by funext j; omega
  rw [e] at this; omega
theorem Rnd.times (h : Rnd w R ds C) (n : Int) (x : Vec) (j : Nat) : C (fun j => n * x j) j = n * C x j := by
  have := h.lin (fun _ => 0) x n j
  rw [h.zero] at this
  have e : (fun j : Nat => (0 : Int) + n * x j) = fun j => n * x j := by funext j; omega
  rw [e] at this; omega
theorem Rnd.minus (h : Rnd w R ds C) (x y : Vec) (j : Nat) : C (fun j => x j - y j) j = C x j - C y j := by
  have := h.lin x y (-1) j
  have e : (fun j : Nat => x j + -1 * y j) = fun j => x j - y j := by funext j; omega
  rw [e] at this; omega
theorem Rnd.latn (h : Rnd w R ds C) {x : Vec} (hx : Supp w x) (n : Int) : Lat R (fun j => n * x j) ↔ ∀ k, k < w → rf ds k ∣ n * C x k := by
  rw [h.lat _ fun j hj => by rw [hx j hj]; omega]
  constructor
  · intro z k hk
    rw [← h.times]; exact z k hk
  · intro z k hk
    rw [h.times]; exact z k hk
theorem rf_mem {ds : List Int} {k : Nat} (h : k < ds.length) : rf ds k ∈ ds := by
  unfold rf
  rw [List.getD_eq_getElem?_getD, List.getElem?_eq_getElem h]
  exact List.getElem_mem h
theorem Rnd.at_nonneg (h : Rnd w R ds C) (k : Nat) : 0 ≤ rf ds k := by
  by_cases z : k < ds.length
  · exact h.nonneg _ (rf_mem z)
  · rw [rf_out (by omega)]; exact Int.le_refl _
/-- all downs stand and are above 0 -/
def Full (w : Nat) (ds : List Int) : Prop := ds.length = w ∧ ∀ d ∈ ds, 0 < d
theorem Full.at_ {w : Nat} {ds : List Int} (h : Full w ds) {k : Nat} (hk : k < w) : 0 < rf ds k := h.2 _ (rf_mem (by rw [h.1]; exact hk))
def eV (k : Nat) : Vec := fun j => if j = k then 1 else 0
theorem eV_supp {k : Nat} (h : k < w) : Supp w (eV k) := fun j hj => by unfold eV; rw [if_neg (by omega)]
theorem Rnd.full_of_form (h : Rnd w R ds C) {F : List Row} (hF : Form w R F) (hl : F.length = w) : Full w ds := by
  have key : ∀ k, k < w → 0 < rf ds k := by
    intro k hk
    obtain ⟨B, hB⟩ := h.back
    obtain ⟨b1, b2⟩ := hB _ (eV_supp (w := w) hk)
    obtain ⟨n, hn, L⟩ := hF.full_mult hl (x := B (eV k)) b1
    have d := (h.latn b1 n).mp L k hk
    rw [b2] at d
    have e : eV k k = 1 := if_pos rfl
    rw [e] at d
    have p := h.at_nonneg k
    by_cases z : rf ds k = 0
    · rw [z] at d
      have := Int.zero_dvd.mp d
      omega
    · omega
  have hlen : ds.length = w := by
    have := h.len
    by_cases z : ds.length < w
    · have := key _ z
      rw [rf_out (Nat.le_refl _)] at this
      omega
    · omega
  refine ⟨hlen, fun d hd => ?_⟩
  obtain ⟨k, hk, rfl⟩ := List.getElem_of_mem hd
  have := key k (by omega)
  unfold rf at this
  rw [List.getD_eq_getElem?_getD, List.getElem?_eq_getElem hk] at this
  exact this
def prodI : List Int → Int
  | [] => 1
  | d :: l => d * prodI l
theorem prodI_pos : ∀ {l : List Int}, (∀ d ∈ l, 0 < d) → 0 < prodI l
  | [], _ => by decide
  | d :: l, h => Int.mul_pos (h d List.mem_cons_self) (prodI_pos fun e he => h e (List.mem_cons_of_mem _ he))
theorem prodI_dvd : ∀ {l : List Int} {d : Int}, d ∈ l → d ∣ prodI l
  | [], _, h => by cases h
  | e :: l, d, h => by
    rcases List.mem_cons.mp h with rfl | h
    · exact ⟨prodI l, rfl⟩
    · obtain ⟨c, hc⟩ := prodI_dvd h
      exact ⟨e * c, by unfold prodI; rw [hc]; grind⟩
theorem prodI_foldl (l : List Int) (a : Int) : l.foldl (fun x d => x * d) a = a * prodI l := by
  induction l generalizing a with
  | nil => simp [prodI]
  | cons d l ih => rw [List.foldl_cons, ih, prodI, Int.mul_assoc]
theorem Rnd.form_of_full (h : Rnd w R ds C) (hf : Full w ds) {F : List Row} (hF : Form w R F) : F.length = w := by
  refine hF.full_of fun k hk => ⟨prodI ds, prodI_pos hf.2, ?_⟩
  refine (h.latn (eV_supp (w := w) hk) _).mpr fun i hi => ?_
  obtain ⟨c, hc⟩ := prodI_dvd (rf_mem (ds := ds) (k := i) (by rw [hf.1]; exact hi))
  exact ⟨c * C (eV k) i, by rw [hc]; grind⟩

/-! ### counts -/
theorem prodL_mem_map {α : Type} {f : α → List Int} {ls : List α} {r : Row} : r ∈ prodL (ls.map f) ↔ r.length = ls.length ∧ ∀ j (h : j < ls.length), rf r j ∈ f ls[j] := by
  rw [prodL_mem]
  constructor
  · rintro ⟨h1, h2⟩
    refine ⟨by rw [h1, List.length_map], fun j h => ?_⟩
    have := h2 j (by rw [List.length_map]; exact h)
    rw [List.getElem_map] at this
    exact this
  · rintro ⟨h1, h2⟩
    refine ⟨by rw [h1, List.length_map], fun j h => ?_⟩
    rw [List.getElem_map]
    exact h2 j (by rw [List.length_map] at h; exact h)
/-- places whose numbers times n are whole rests -/
def killP (n : Int) (ds : List Int) : List Row := prodL (ds.map fun d => (rng d).filter fun y => decide (d ∣ n * y))
theorem killP_mem {n : Int} {ds : List Int} {r : Row} : r ∈ killP n ds ↔ r.length = ds.length ∧ ∀ k, k < ds.length → 0 ≤ rf r k ∧ rf r k < rf ds k ∧ rf ds k ∣ n * rf r k := by
  unfold killP
  rw [prodL_mem_map]
  refine and_congr_right fun _ => ⟨fun h k hk => ?_, fun h k hk => ?_⟩
  · have z := h k hk
    rw [List.mem_filter, rng_mem] at z
    have e : rf ds k = ds[k] := by simp [rf, hk]
    rw [e]
    exact ⟨z.1.1, z.1.2, of_decide_eq_true z.2⟩
  · obtain ⟨z1, z2, z3⟩ := h k hk
    have e : rf ds k = ds[k] := by simp [rf, hk]
    rw [e] at z2 z3
    rw [List.mem_filter, rng_mem]
    exact ⟨⟨z1, z2⟩, decide_eq_true z3⟩
theorem killP_nodup (n : Int) (ds : List Int) : (killP n ds).Nodup := prodL_nodup fun l hl => by
  obtain ⟨d, _, rfl⟩ := List.mem_map.mp hl
  exact (rng_nodup d).sublist List.filter_sublist
/-- the product of the greatest common divisors -/
def gprod (n : Int) : List Int → Int
  | [] => 1
  | d :: l => (Int.gcd n d : Int) * gprod n l
theorem killP_length {n : Int} : ∀ {ds : List Int}, (∀ d ∈ ds, 0 < d) → ((killP n ds).length : Int) = gprod n ds
  | [], _ => rfl
  | d :: ds, h => by
    have ih := killP_length (n := n) (ds := ds) fun e he => h e (List.mem_cons_of_mem _ he)
    unfold killP at ih ⊢
    rw [prodL_length] at ih ⊢
    rw [List.map_cons, List.map_cons, prodN, gprod, ← ih, kill_count (h d List.mem_cons_self), Int.natCast_mul]
theorem gprod_zero : ∀ {ds : List Int}, (∀ d ∈ ds, 0 < d) → gprod 0 ds = prodI ds
  | [], _ => rfl
  | d :: ds, h => by
    unfold gprod prodI
    rw [gprod_zero fun e he => h e (List.mem_cons_of_mem _ he), Int.gcd_zero_left]
    have := h d List.mem_cons_self
    congr 1
    omega
theorem row_eq {w : Nat} {p q : Row} (hp : p.length = w) (hq : q.length = w) (h : ∀ k, k < w → rf p k = rf q k) : p = q :=
  rf_ext (by omega) fun j => by
    by_cases z : j < w
    · exact h j z
    · rw [rf_out (by omega), rf_out (by omega)]
/-- the rests that n times lie in the lattice are as many as the gcds say -/
theorem Rnd.count (h : Rnd w R ds C) (hR : ∀ r ∈ R, r.length = w) {F : List Row} (hF : Form w R F) (hl : F.length = w) (n : Int) {T : List Row} (hn : T.Nodup)
    (hT : ∀ q, q ∈ T ↔ q.length = w ∧ Red R (rf q) ∧ Lat R (fun j => n * rf q j)) : (T.length : Int) = gprod n ds := by
  have hf := h.full_of_form hF hl
  rw [← killP_length hf.2]
  have dpos : ∀ k, k < w → 0 < rf ds k := fun k hk => hf.at_ hk
  obtain ⟨B, hB⟩ := h.back
  have le1 : T.length ≤ (killP n ds).length := by
    refine inj_le (fun q => mkRow w fun k => C (rf q) k % rf ds k) hn (fun q hq => ?_) fun q hq q' hq' e => ?_
    · obtain ⟨q1, q2, q3⟩ := (hT q).mp hq
      rw [killP_mem, mkRow_len, hf.1]
      refine ⟨rfl, fun k hk => ?_⟩
      rw [rf_mkRow, if_pos hk]
      have p := dpos k hk
      refine ⟨Int.emod_nonneg _ (by omega), Int.emod_lt_of_pos _ p, ?_⟩
      obtain ⟨c, hc⟩ := (h.latn (supp_rf q1) n).mp q3 k hk
      have e := Int.mul_ediv_add_emod (C (rf q) k) (rf ds k)
      refine ⟨c - n * (C (rf q) k / rf ds k), ?_⟩
      have : C (rf q) k % rf ds k = C (rf q) k - rf ds k * (C (rf q) k / rf ds k) := by omega
      rw [this]; grind
    · obtain ⟨q1, q2, q3⟩ := (hT q).mp hq
      obtain ⟨q1', q2', q3'⟩ := (hT q').mp hq'
      have L : Lat R (fun j => rf q j - rf q' j) := by
        refine (h.lat _ fun j hj => by rw [supp_rf q1 j hj, supp_rf q1' j hj]; omega).mpr fun k hk => ?_
        rw [h.minus]
        have z := congrArg (fun r => rf r k) e
        simp only [rf_mkRow, if_pos hk] at z
        exact Int.dvd_of_emod_eq_zero (by rw [Int.sub_emod, z]; simp)
      exact row_eq q1 q1' fun k _ => q2.uniq q2' L k
  have le2 : (killP n ds).length ≤ T.length := by
    refine inj_le (fun y => restF F (mkRow w (B (rf y)))) (killP_nodup n ds) (fun y hy => ?_) fun y hy y' hy' e => ?_
    · rw [killP_mem, hf.1] at hy
      obtain ⟨y1, y2⟩ := hy
      obtain ⟨b1, b2⟩ := hB _ (supp_rf y1)
      have lF : ∀ f ∈ F, f.length = (mkRow w (B (rf y))).length := fun f hf => by rw [mkRow_len]; exact hF.ech.len f hf
      have rs := (restF_is (F := F) (p := mkRow w (B (rf y))) (by rw [mkRow_len]; exact hF.ech)).same hF.same
      refine (hT _).mpr ⟨by rw [restF_len lF, mkRow_len], rs.red, ?_⟩
      have L1 : Lat R (fun j => n * B (rf y) j) := (h.latn b1 n).mpr fun k hk => by rw [b2]; exact (y2 k hk).2.2
      have L2 := rs.by_.times n
      exact (L1.minus L2).of_eq fun j => by rw [rf_mkRow_of b1]; grind
    · rw [killP_mem, hf.1] at hy hy'
      obtain ⟨y1, y2⟩ := hy
      obtain ⟨y1', y2'⟩ := hy'
      obtain ⟨b1, b2⟩ := hB _ (supp_rf y1)
      obtain ⟨b1', b2'⟩ := hB _ (supp_rf y1')
      have rs := (restF_is (F := F) (p := mkRow w (B (rf y))) (by rw [mkRow_len]; exact hF.ech)).same hF.same
      have rs' := (restF_is (F := F) (p := mkRow w (B (rf y'))) (by rw [mkRow_len]; exact hF.ech)).same hF.same
      have L : Lat R (fun j => B (rf y) j - B (rf y') j) := by
        refine ((rs.alike rs').mp fun j => ?_).of_eq fun j => by rw [rf_mkRow_of b1, rf_mkRow_of b1']
        exact congrArg (fun r => rf r j) e
      have z := (h.lat _ fun j hj => by rw [b1 j hj, b1' j hj]; omega).mp L
      refine row_eq y1 y1' fun k hk => ?_
      have d := z k hk
      rw [h.minus, b2, b2'] at d
      obtain ⟨c, hc⟩ := d
      have u := y2 k hk
      have v := y2' k hk
      have p := dpos k hk
      have hc0 : c = 0 := by
        by_cases c1 : 0 < c
        · have : rf ds k * 1 ≤ rf ds k * c := Int.mul_le_mul_of_nonneg_left (by omega) (by omega)
          omega
        · by_cases c2 : c < 0
          · have : rf ds k * c ≤ rf ds k * (-1) := Int.mul_le_mul_of_nonneg_left (by omega) (by omega)
            omega
          · omega
      rw [hc0] at hc
      omega
  omega

/-! ### the rests of a lattice of full rank -/
def redBox (F : List Row) : List Row := prodL (F.map fun f => rng (lv f))
theorem lead_at {F : List Row} (h : Ech w F) (hl : F.length = w) {j : Nat} (hj : j < w) : ∃ f, F[j]? = some f ∧ leadN f = j := by
  have e := h.leads_full hl
  have hj' : j < F.length := by omega
  refine ⟨F[j], List.getElem?_eq_getElem hj', ?_⟩
  have : (F.map leadN)[j]? = (List.range w)[j]? := by rw [e]
  rw [List.getElem?_map, List.getElem?_eq_getElem hj', List.getElem?_range hj] at this
  exact Option.some.inj this
theorem redBox_mem {F : List Row} (hF : Form w R F) (hl : F.length = w) {q : Row} : q ∈ redBox F ↔ q.length = w ∧ Red R (rf q) := by
  unfold redBox
  subst hl
  have hl : F.length = F.length := rfl
  rw [prodL_mem_map]
  refine and_congr_right fun hq => ⟨fun h => ?_, fun h k hk => ?_⟩
  · refine (hF.ech.red fun f hf => ?_).same hF.same
    obtain ⟨i, hi, rfl⟩ := List.getElem_of_mem hf
    obtain ⟨g, hg, e⟩ := lead_at hF.ech hl (j := i) (by omega)
    rw [List.getElem?_eq_getElem hi] at hg
    have hg := Option.some.inj hg
    subst hg
    have z := h i (by omega)
    rw [rng_mem] at z
    rw [e]
    exact z
  · obtain ⟨g, hg, e⟩ := lead_at hF.ech hl (j := k) hk
    have hk' : k < F.length := by omega
    rw [List.getElem?_eq_getElem hk'] at hg
    have hg := Option.some.inj hg
    rw [rng_mem, hg]
    have hm : g ∈ F := hg ▸ List.getElem_mem hk'
    have z := h (rf g) (hF.same.lat.mp (Lat.row hm)) k (fun i hi => leadN_before g i (by omega)) (by
      have := (hF.ech.pos g hm).2
      unfold lv at this
      rw [e] at this
      exact this)
    unfold lv
    rw [e]
    exact z
theorem redBox_nodup (F : List Row) : (redBox F).Nodup := prodL_nodup fun l hl => by
  obtain ⟨d, _, rfl⟩ := List.mem_map.mp hl
  exact rng_nodup _
theorem redBox_length {w : Nat} : ∀ {F : List Row}, Ech w F → ((redBox F).length : Int) = pp F
  | [], _ => rfl
  | f :: F, h => by
    have ih := redBox_length h.tail
    unfold redBox at ih ⊢
    rw [prodL_length] at ih ⊢
    rw [List.map_cons, List.map_cons, prodN, pp, ← ih, rng_length, Int.natCast_mul]
    have := (h.pos f List.mem_cons_self).2
    congr 1
    omega
theorem mem_length_eq {S T : List Row} (hS : S.Nodup) (hT : T.Nodup) (h : ∀ q, q ∈ S ↔ q ∈ T) : S.length = T.length := by
  have := nodup_le hS fun q hq => (h q).mp hq
  have := nodup_le hT fun q hq => (h q).mpr hq
  omega
/-- the classes are as many as the product of the numbers at the leads -/
theorem Rnd.classes (h : Rnd w R ds C) (hR : ∀ r ∈ R, r.length = w) {F : List Row} (hF : Form w R F) (hl : F.length = w) : prodI ds = pp F := by
  have hf := h.full_of_form hF hl
  rw [← gprod_zero hf.2, ← redBox_length hF.ech]
  refine (h.count hR hF hl 0 (redBox_nodup F) fun q => ?_).symm
  rw [redBox_mem hF hl]
  exact and_congr_right fun _ => ⟨fun r => ⟨r, Lat.zero.of_eq fun j => by omega⟩, fun r => r.1⟩

/-! ### the last number above -/
def lastA (ds : List Int) : Int := (ds.filter fun d => decide (1 < d)).getLastD 1
theorem lastA_dvd : ∀ {ds : List Int}, ds.Pairwise (· ∣ ·) → (∀ d ∈ ds, 0 ≤ d) → ∀ d ∈ ds, 0 < d → d ∣ lastA ds
  | [], _, _, d, hd, _ => by cases hd
  | e :: ds, hc, hn, d, hd, hp => by
    obtain ⟨h1, h2⟩ := List.pairwise_cons.mp hc
    have ih := lastA_dvd h2 fun d hd => hn d (List.mem_cons_of_mem _ hd)
    have he := hn e List.mem_cons_self
    have one : ∀ {x : Int}, 0 ≤ x → x ∣ 1 → x = 1 := fun {x} hx z => by
      have h3 := Int.le_of_dvd (by decide) z
      by_cases z0 : x = 0
      · subst z0; exact absurd (Int.zero_dvd.mp z) (by decide)
      · omega
    have dv : ∀ {a b : Int}, a ∣ b → b ∣ 1 → a ∣ 1 := fun {a b} p q => Int.dvd_trans p q
    by_cases hnil : (ds.filter fun d => decide (1 < d)) = []
    · have m1 : lastA ds = 1 := by unfold lastA; rw [hnil]; rfl
      have m2 : lastA (e :: ds) = if 1 < e then e else 1 := by
        unfold lastA
        rw [List.filter_cons]
        by_cases z : 1 < e
        · simp [z, hnil]
        · simp [z, hnil]
      rw [m1] at ih
      rcases List.mem_cons.mp hd with rfl | hd
      · rw [m2]
        split
        · exact Int.dvd_refl _
        · have : d = 1 := by omega
          rw [this]; exact Int.dvd_refl _
      · have : d = 1 := one (by omega) (ih d hd hp)
        rw [this]; exact ⟨_, (Int.one_mul _).symm⟩
    · have m2 : lastA (e :: ds) = lastA ds := by
        unfold lastA
        rw [List.filter_cons]
        split
        · rw [List.getLastD_cons, List.getLastD_eq_getLast?, List.getLastD_eq_getLast?]
          cases q : (ds.filter fun d => decide (1 < d)).getLast? with
          | none => exact absurd (List.getLast?_eq_none_iff.mp q) hnil
          | some a => rfl
        · rfl
      rw [m2]
      rcases List.mem_cons.mp hd with rfl | hd
      · obtain ⟨x, hx⟩ := List.exists_mem_of_ne_nil _ hnil
        obtain ⟨x1, x2⟩ := List.mem_filter.mp hx
        have x2 : 1 < x := of_decide_eq_true x2
        exact Int.dvd_trans (h1 x x1) (ih x x1 (by omega))
      · exact ih d hd hp
theorem lastA_pos (ds : List Int) : 0 < lastA ds := by
  unfold lastA
  rw [List.getLastD_eq_getLast?]
  cases q : (ds.filter fun d => decide (1 < d)).getLast? with
  | none => decide
  | some a =>
    have := List.mem_of_getLast? q
    have := of_decide_eq_true (List.mem_filter.mp this).2
    show 0 < a
    omega
/-- where some times a point lies in the lattice, the last number above times it does -/
theorem Rnd.last (h : Rnd w R ds C) {x : Vec} (hx : Supp w x) {n : Int} (hn : 0 < n) (L : Lat R (fun j => n * x j)) : Lat R (fun j => lastA ds * x j) := by
  refine (h.latn hx _).mpr fun k hk => ?_
  have z := (h.latn hx n).mp L k hk
  have p := h.at_nonneg k
  by_cases e : rf ds k = 0
  · rw [e] at z ⊢
    have := Int.zero_dvd.mp z
    have : C x k = 0 := by
      rcases Int.mul_eq_zero.mp this with q | q
      · omega
      · exact q
    rw [this]; exact ⟨0, by omega⟩
  · have hk' : k < ds.length := by
      by_cases z : k < ds.length
      · exact z
      · exact absurd (rf_out (by omega)) e
    obtain ⟨c, hc⟩ := lastA_dvd h.chain h.nonneg _ (rf_mem hk') (by omega)
    exact ⟨c * C x k, by rw [hc]; grind⟩

/-! ### the rests gone through -/
theorem gone_all {G : List Row} (hF0 : ∃ q ∈ G, IsRest R (fun _ => 0) (rf q)) (hc : ∀ q ∈ G, ∀ k, k < w → ∃ q' ∈ G, IsRest R (fun j => rf q j + eV k j) (rf q')) :
    ∀ (n : Nat) (x : Vec), Supp w x → (∀ j, 0 ≤ x j) → (∀ m, m ≤ w → True) → ((List.range w).map x).sum = (n : Int) → ∃ q ∈ G, IsRest R x (rf q)
  | n, x, hs, hp, _, hsum => by
    have snn : ∀ l : List Nat, 0 ≤ (l.map x).sum := fun l => by
      induction l with
      | nil => simp
      | cons a l ih => simp only [List.map_cons, List.sum_cons]; have := hp a; omega
    have sle : ∀ (l : List Nat) a, a ∈ l → x a ≤ (l.map x).sum := fun l => by
      induction l with
      | nil => intro a h; cases h
      | cons b l ih =>
        intro a h
        simp only [List.map_cons, List.sum_cons]
        rcases List.mem_cons.mp h with rfl | h
        · have := snn l; omega
        · have := ih a h; have := hp b; omega
    cases n with
    | zero =>
      obtain ⟨q, hq, r⟩ := hF0
      have e : x = fun _ => 0 := by
        funext j
        by_cases z : j < w
        · have := sle _ j (List.mem_range.mpr z)
          have := hp j
          omega
        · exact hs j (by omega)
      rw [e]
      exact ⟨q, hq, r⟩
    | succ n =>
      obtain ⟨k, hk, hk0⟩ : ∃ k, k < w ∧ 0 < x k := by
        apply Classical.byContradiction
        intro hno
        have hz : ∀ k, k < w → x k = 0 := fun k hk => by
          have := hp k
          by_cases z : x k = 0
          · exact z
          · exact absurd ⟨k, hk, by omega⟩ hno
        have : (List.range w).map x = (List.range w).map fun _ => 0 := List.map_congr_left fun a ha => hz a (List.mem_range.mp ha)
        rw [this] at hsum
        have s0 : ∀ l : List Nat, (l.map fun _ => (0 : Int)).sum = 0 := fun l => by
          induction l with
          | nil => rfl
          | cons a l ih => simp only [List.map_cons, List.sum_cons, ih]; omega
        rw [s0] at hsum
        omega
      have ssub : ∀ l : List Nat, l.Nodup → (l.map fun j => x j - eV k j).sum = (l.map x).sum - if k ∈ l then 1 else 0 := fun l => by
        induction l with
        | nil => intro _; simp
        | cons a l ih =>
          intro hn
          obtain ⟨h1, h2⟩ := List.nodup_cons.mp hn
          simp only [List.map_cons, List.sum_cons, ih h2]
          by_cases e : a = k
          · subst e
            have e1 : eV a a = 1 := if_pos rfl
            rw [e1, if_neg h1, if_pos List.mem_cons_self]; omega
          · have e1 : eV k a = 0 := if_neg e
            rw [e1]
            by_cases hm : k ∈ l
            · rw [if_pos hm, if_pos (List.mem_cons_of_mem _ hm)]; omega
            · rw [if_neg hm, if_neg (fun z => by rcases List.mem_cons.mp z with z | z; exact e z.symm; exact hm z)]; omega
      obtain ⟨q, hq, r⟩ := gone_all hF0 hc n (fun j => x j - eV k j) (fun j hj => by have z1 := hs j hj; have z2 := eV_supp hk j hj; show x j - eV k j = 0; omega) (fun j => by
        unfold eV
        split
        · rename_i e; subst e; omega
        · have := hp j; omega) (fun _ _ => trivial) (by
        rw [ssub _ List.nodup_range, if_pos (List.mem_range.mpr hk), hsum]; omega)
      obtain ⟨q', hq', r'⟩ := hc q hq k hk
      exact ⟨q', hq', ⟨(r.by_.plus r'.by_).of_eq fun j => by omega, r'.red⟩⟩
/-- in full rank what is closed under single steps holds each rest -/
theorem gone_full {F : List Row} (hF : Form w R F) (hl : F.length = w) {G : List Row} (hG : ∀ q ∈ G, q.length = w) (h0 : ∃ q ∈ G, IsRest R (fun _ => 0) (rf q)) (hc : ∀ q ∈ G, ∀ k, k < w → ∃ q' ∈ G, IsRest R (fun j => rf q j + eV k j) (rf q'))
    {q : Row} (hq : q.length = w) (hr : Red R (rf q)) : q ∈ G := by
  have hm := (redBox_mem hF hl).mpr ⟨hq, hr⟩
  unfold redBox at hm
  rw [prodL_mem_map] at hm
  have hp : ∀ j, 0 ≤ rf q j := fun j => by
    by_cases z : j < F.length
    · have := hm.2 j z
      rw [rng_mem] at this
      exact this.1
    · rw [rf_out (by omega)]; exact Int.le_refl _
  have snn : ∀ l : List Nat, 0 ≤ (l.map (rf q)).sum := fun l => by
    induction l with
    | nil => simp
    | cons a l ih => simp only [List.map_cons, List.sum_cons]; have := hp a; omega
  obtain ⟨q', hq', r⟩ := gone_all h0 hc ((List.range w).map (rf q)).sum.toNat (rf q) (supp_rf hq) hp (fun _ _ => trivial) (by have := snn (List.range w); omega)
  have e : q = q' := row_eq hq (hG q' hq') fun k _ => (IsRest.self hr).uniq r k
  rw [e]; exact hq'
end
end K94

set_option Elab.async false
set_option linter.all false
/-! M5: deeds on rows, deeds on columns, and what they keep. -/
namespace K94
def ent (R : List Row) (i j : Nat) : Int := rf (R.getD i []) j
structure Tab (m w : Nat) (R : List Row) : Prop where
  len : R.length = m
  wid : ∀ r ∈ R, r.length = w
inductive Deed
  | swap (i j : Nat) | turn (i : Nat) | add (i j : Nat) (k : Int)
def DeedOk (m : Nat) : Deed → Prop
  | .swap i j => i < m ∧ j < m ∧ i ≠ j
  | .turn i => i < m
  | .add i j _ => i < m ∧ j < m ∧ i ≠ j
def rowsB (R : List Row) : Deed → List Row
  | .swap i j => (R.set i (R.getD j [])).set j (R.getD i [])
  | .turn i => R.set i ((R.getD i []).map fun x => -x)
  | .add i j k => R.set i (addk (R.getD i []) (R.getD j []) k)
def rowsD (R : List Row) (ds : List Deed) : List Row := ds.foldl rowsB R
theorem rowsD_snoc (R : List Row) (ds : List Deed) (d : Deed) : rowsD R (ds ++ [d]) = rowsB (rowsD R ds) d := by
  unfold rowsD; rw [List.foldl_append]; rfl
theorem rowsD_append (R : List Row) (ds es : List Deed) : rowsD R (ds ++ es) = rowsD (rowsD R ds) es := by
  unfold rowsD; rw [List.foldl_append]
theorem getD_len {m w : Nat} {R : List Row} (h : Tab m w R) {i : Nat} (hi : i < m) : (R.getD i []).length = w := by
  have hi' : i < R.length := by rw [h.len]; exact hi
  rw [List.getD_eq_getElem?_getD, List.getElem?_eq_getElem hi']
  exact h.wid _ (List.getElem_mem hi')
theorem getD_mem {m w : Nat} {R : List Row} (h : Tab m w R) {i : Nat} (hi : i < m) : R.getD i [] ∈ R := by
  have hi' : i < R.length := by rw [h.len]; exact hi
  rw [List.getD_eq_getElem?_getD, List.getElem?_eq_getElem hi']
  exact List.getElem_mem hi'
theorem getD_out {R : List Row} {i : Nat} (h : R.length ≤ i) : R.getD i [] = [] := by simp [h]
theorem mem_getD {m w : Nat} {R : List Row} (h : Tab m w R) {r : Row} (hr : r ∈ R) : ∃ i, i < m ∧ R.getD i [] = r := by
  obtain ⟨i, hi, e⟩ := List.getElem_of_mem hr
  exact ⟨i, by rw [← h.len]; exact hi, by simp [hi, e]⟩
theorem getD_set (R : List Row) (i k : Nat) (r : Row) : (R.set i r).getD k [] = if i = k ∧ i < R.length then r else R.getD k [] := by
  rw [List.getD_eq_getElem?_getD, List.getElem?_set]
  by_cases e : i = k
  · subst e
    by_cases h : i < R.length
    · simp [h]
    · simp [h]
  · simp [e]
theorem Tab.set {m w : Nat} {R : List Row} (h : Tab m w R) (i : Nat) {r : Row} (hr : r.length = w) : Tab m w (R.set i r) :=
  ⟨by rw [List.length_set]; exact h.len, fun s hs => by
    rcases List.mem_or_eq_of_mem_set hs with z | z
    · exact h.wid s z
    · rw [z]; exact hr⟩
theorem Tab.rowsB {m w : Nat} {R : List Row} (h : Tab m w R) {d : Deed} (hd : DeedOk m d) : Tab m w (rowsB R d) := by
  cases d with
  | swap i j => exact (h.set i (getD_len h hd.2.1)).set j (getD_len h hd.1)
  | turn i => exact h.set i (by rw [List.length_map]; exact getD_len h hd)
  | add i j k => exact h.set i (by rw [addk_len _ (by rw [getD_len h hd.1, getD_len h hd.2.1])]; exact getD_len h hd.1)
theorem Tab.ext {m w : Nat} {R S : List Row} (h : Tab m w R) (h' : Tab m w S) (e : ∀ i j, i < m → j < w → ent R i j = ent S i j) : R = S := by
  apply List.ext_getElem (by rw [h.len, h'.len])
  intro i h1 h2
  have a1 := h.wid _ (List.getElem_mem h1)
  have a2 := h'.wid _ (List.getElem_mem h2)
  refine row_eq a1 a2 fun k hk => ?_
  have := e i k (by rw [← h.len]; exact h1) hk
  unfold ent at this
  simpa [h1, h2] using this
theorem ent_out1 {m w : Nat} {R : List Row} (h : Tab m w R) {i j : Nat} (hi : m ≤ i) : ent R i j = 0 := by
  unfold ent
  rw [getD_out (by rw [h.len]; exact hi), rf_nil]
theorem ent_out2 {m w : Nat} {R : List Row} (h : Tab m w R) {i j : Nat} (hj : w ≤ j) : ent R i j = 0 := by
  by_cases hi : i < m
  · exact rf_out (by rw [getD_len h hi]; exact hj)
  · exact ent_out1 h (by omega)
theorem rf_neg (r : Row) (j : Nat) : rf (r.map fun x => -x) j = - rf r j := by
  unfold rf
  rw [List.getD_eq_getElem?_getD, List.getD_eq_getElem?_getD, List.getElem?_map]
  cases r[j]? <;> simp
def entB (e : Nat → Nat → Int) : Deed → Nat → Nat → Int
  | .swap i j, a, c => if a = i then e j c else if a = j then e i c else e a c
  | .turn i, a, c => if a = i then - e a c else e a c
  | .add i j k, a, c => if a = i then e i c + k * e j c else e a c
/-- what a deed makes of the numbers -/
theorem ent_rowsB {m w : Nat} {R : List Row} (h : Tab m w R) {d : Deed} (hd : DeedOk m d) (a c : Nat) : ent (rowsB R d) a c = entB (ent R) d a c := by
  have L := h.len
  unfold entB
  cases d with
  | swap i j =>
    obtain ⟨h1, h2, h3⟩ := hd
    unfold ent rowsB
    simp only [getD_set, List.length_set, L]
    by_cases e1 : a = i
    · subst e1
      rw [if_neg (by omega), if_pos ⟨rfl, h1⟩, if_pos rfl]
    · by_cases e2 : a = j
      · subst e2
        rw [if_pos ⟨rfl, h2⟩, if_neg e1, if_pos rfl]
      · rw [if_neg (by omega), if_neg (by omega), if_neg e1, if_neg e2]
  | turn i =>
    have hd : i < m := hd
    unfold ent rowsB
    simp only [getD_set, L]
    by_cases e1 : a = i
    · subst e1
      rw [if_pos ⟨rfl, hd⟩, if_pos rfl, rf_neg]
    · rw [if_neg (by omega), if_neg e1]
  | add i j k =>
    obtain ⟨h1, h2, h3⟩ := hd
    unfold ent rowsB
    simp only [getD_set, L]
    by_cases e1 : a = i
    · subst e1
      rw [if_pos ⟨rfl, h1⟩, if_pos rfl, rf_addk _ (by rw [getD_len h h1, getD_len h h2])]
    · rw [if_neg (by omega), if_neg e1]
theorem lat_of_rows {m w : Nat} {R S : List Row} (hS : Tab m w S) (h : ∀ a, a < m → Lat R (rf (S.getD a []))) : Sub S R := fun r hr => by
  obtain ⟨i, hi, e⟩ := mem_getD hS hr
  rw [← e]; exact h i hi
/-- deeds keep the lattice -/
theorem same_rowsB {m w : Nat} {R : List Row} (h : Tab m w R) {d : Deed} (hd : DeedOk m d) : Same (rowsB R d) R := by
  have hB := h.rowsB hd
  have row : ∀ a, a < m → Lat R (fun j => ent R a j) := fun a ha => Lat.row (getD_mem h ha)
  have rowB : ∀ a, a < m → Lat (rowsB R d) (fun j => ent (rowsB R d) a j) := fun a ha => Lat.row (getD_mem hB ha)
  have e := ent_rowsB h hd
  refine ⟨lat_of_rows hB fun a ha => ?_, lat_of_rows h fun a ha => ?_⟩
  · show Lat R (fun j => ent (rowsB R d) a j)
    cases d with
    | swap i j =>
      obtain ⟨h1, h2, h3⟩ := hd
      by_cases e1 : a = i
      · exact (row j h2).of_eq fun c => by rw [e a c]; simp only [entB]; rw [if_pos e1]
      · by_cases e2 : a = j
        · exact (row i h1).of_eq fun c => by rw [e a c]; simp only [entB]; rw [if_neg e1, if_pos e2]
        · exact (row a ha).of_eq fun c => by rw [e a c]; simp only [entB]; rw [if_neg e1, if_neg e2]
    | turn i =>
      by_cases e1 : a = i
      · exact (row a ha).neg.of_eq fun c => by rw [e a c]; simp only [entB]; rw [if_pos e1]
      · exact (row a ha).of_eq fun c => by rw [e a c]; simp only [entB]; rw [if_neg e1]
    | add i j k =>
      obtain ⟨h1, h2, h3⟩ := hd
      by_cases e1 : a = i
      · exact ((row i h1).plusk (row j h2) k).of_eq fun c => by rw [e a c]; simp only [entB]; rw [if_pos e1]
      · exact (row a ha).of_eq fun c => by rw [e a c]; simp only [entB]; rw [if_neg e1]
  · show Lat (rowsB R d) (fun j => ent R a j)
    cases d with
    | swap i j =>
      obtain ⟨h1, h2, h3⟩ := hd
      by_cases e1 : a = i
      · exact (rowB j h2).of_eq fun c => by rw [e j c]; simp only [entB]; rw [if_neg (Ne.symm h3), if_pos trivial, e1]
      · by_cases e2 : a = j
        · exact (rowB i h1).of_eq fun c => by rw [e i c]; simp only [entB]; rw [if_pos trivial, e2]
        · exact (rowB a ha).of_eq fun c => by rw [e a c]; simp only [entB]; rw [if_neg e1, if_neg e2]
    | turn i =>
      by_cases e1 : a = i
      · exact (rowB a ha).neg.of_eq fun c => by rw [e a c]; simp only [entB]; rw [if_pos e1]; omega
      · exact (rowB a ha).of_eq fun c => by rw [e a c]; simp only [entB]; rw [if_neg e1]
    | add i j k =>
      obtain ⟨h1, h2, h3⟩ := hd
      by_cases e1 : a = i
      · refine ((rowB i h1).plusk (rowB j h2) (-k)).of_eq fun c => ?_
        rw [e i c, e j c]
        simp only [entB]
        rw [if_pos trivial, if_neg (Ne.symm h3), e1]; grind
      · exact (rowB a ha).of_eq fun c => by rw [e a c]; simp only [entB]; rw [if_neg e1]
theorem Tab.rowsD {m w : Nat} {R : List Row} (h : Tab m w R) : ∀ {ds : List Deed}, (∀ d ∈ ds, DeedOk m d) → Tab m w (rowsD R ds) := by
  intro ds
  induction ds generalizing R with
  | nil => intro _; exact h
  | cons d ds ih => intro hd; exact ih (h.rowsB (hd d List.mem_cons_self)) fun e he => hd e (List.mem_cons_of_mem _ he)
theorem same_rowsD {m w : Nat} {R : List Row} (h : Tab m w R) : ∀ {ds : List Deed}, (∀ d ∈ ds, DeedOk m d) → Same (rowsD R ds) R := by
  intro ds
  induction ds generalizing R with
  | nil => intro _; exact .refl _
  | cons d ds ih =>
    intro hd
    exact (ih (h.rowsB (hd d List.mem_cons_self)) fun e he => hd e (List.mem_cons_of_mem _ he)).trans (same_rowsB h (hd d List.mem_cons_self))

/-! ### deeds on points -/
def colOp : Deed → Vec → Vec
  | .swap i j, x => fun c => if c = i then x j else if c = j then x i else x c
  | .turn i, x => fun c => if c = i then - x c else x c
  | .add i j k, x => fun c => if c = i then x i + k * x j else x c
def colOps (ds : List Deed) (x : Vec) : Vec := ds.foldl (fun x d => colOp d x) x
def invD : Deed → Deed
  | .swap i j => .swap i j
  | .turn i => .turn i
  | .add i j k => .add i j (-k)
theorem invD_ok {m : Nat} {d : Deed} (h : DeedOk m d) : DeedOk m (invD d) := by cases d <;> exact h
theorem invD_invD (d : Deed) : invD (invD d) = d := by cases d <;> simp [invD]
theorem colOp_inv {m : Nat} {d : Deed} (h : DeedOk m d) (x : Vec) : colOp (invD d) (colOp d x) = x := by
  funext c
  cases d with
  | swap i j =>
    obtain ⟨_, _, h3⟩ := h
    simp only [invD, colOp]
    by_cases e1 : c = i
    · subst e1; simp [h3.symm]
    · by_cases e2 : c = j
      · subst e2; simp [e1]
      · simp [e1, e2]
  | turn i =>
    simp only [invD, colOp]
    by_cases e1 : c = i <;> simp [e1]
  | add i j k =>
    obtain ⟨_, _, h3⟩ := h
    simp only [invD, colOp]
    by_cases e1 : c = i
    · subst e1; simp [h3.symm]; grind
    · simp [e1]
theorem colOp_lin (d : Deed) (x y : Vec) (k : Int) (c : Nat) : colOp d (fun j => x j + k * y j) c = colOp d x c + k * colOp d y c := by
  cases d with
  | swap i j =>
    simp only [colOp]
    by_cases e1 : c = i
    · rw [if_pos e1, if_pos e1, if_pos e1]
    · by_cases e2 : c = j
      · rw [if_neg e1, if_neg e1, if_neg e1, if_pos e2, if_pos e2, if_pos e2]
      · rw [if_neg e1, if_neg e1, if_neg e1, if_neg e2, if_neg e2, if_neg e2]
  | turn i =>
    simp only [colOp]
    by_cases e1 : c = i
    · rw [if_pos e1, if_pos e1, if_pos e1]; grind
    · rw [if_neg e1, if_neg e1, if_neg e1]
  | add i j m =>
    simp only [colOp]
    by_cases e1 : c = i
    · rw [if_pos e1, if_pos e1, if_pos e1]; grind
    · rw [if_neg e1, if_neg e1, if_neg e1]
theorem colOp_supp {w : Nat} {d : Deed} (h : DeedOk w d) {x : Vec} (hx : Supp w x) : Supp w (colOp d x) := by
  intro c hc
  cases d with
  | swap i j =>
    obtain ⟨h1, h2, _⟩ := h
    simp only [colOp]
    rw [if_neg (by omega), if_neg (by omega)]; exact hx c hc
  | turn i =>
    have h : i < w := h
    simp only [colOp]
    rw [if_neg (by omega)]; exact hx c hc
  | add i j k =>
    obtain ⟨h1, h2, _⟩ := h
    simp only [colOp]
    rw [if_neg (by omega)]; exact hx c hc
theorem colOps_snoc (ds : List Deed) (d : Deed) (x : Vec) : colOps (ds ++ [d]) x = colOp d (colOps ds x) := by
  unfold colOps; rw [List.foldl_append]; rfl
theorem colOps_lin : ∀ (ds : List Deed) (x y : Vec) (k : Int) (c : Nat), colOps ds (fun j => x j + k * y j) c = colOps ds x c + k * colOps ds y c
  | [], _, _, _, _ => rfl
  | d :: ds, x, y, k, c => by
    have e : colOp d (fun j => x j + k * y j) = fun j => colOp d x j + k * colOp d y j := funext fun j => colOp_lin d x y k j
    show colOps ds (colOp d (fun j => x j + k * y j)) c = _
    rw [e, colOps_lin ds]; rfl
theorem colOps_supp {w : Nat} : ∀ {ds : List Deed}, (∀ d ∈ ds, DeedOk w d) → ∀ {x : Vec}, Supp w x → Supp w (colOps ds x)
  | [], _, _, h => h
  | d :: ds, hd, x, h => colOps_supp (fun e he => hd e (List.mem_cons_of_mem _ he)) (colOp_supp (hd d List.mem_cons_self) h)
/-- back through the contrary deeds -/
def backOps : List Deed → Vec → Vec
  | [], y => y
  | d :: ds, y => colOp (invD d) (backOps ds y)
theorem colOps_back {w : Nat} : ∀ {ds : List Deed}, (∀ d ∈ ds, DeedOk w d) → ∀ (y : Vec), colOps ds (backOps ds y) = y
  | [], _, _ => rfl
  | d :: ds, hd, y => by
    show colOps ds (colOp d (colOp (invD d) (backOps ds y))) = y
    have h1 := hd d List.mem_cons_self
    have := colOp_inv (invD_ok h1) (backOps ds y)
    rw [invD_invD] at this
    rw [this]
    exact colOps_back (fun e he => hd e (List.mem_cons_of_mem _ he)) y
theorem backOps_supp {w : Nat} : ∀ {ds : List Deed}, (∀ d ∈ ds, DeedOk w d) → ∀ {y : Vec}, Supp w y → Supp w (backOps ds y)
  | [], _, _, h => h
  | d :: ds, hd, y, h => colOp_supp (invD_ok (hd d List.mem_cons_self)) (backOps_supp (fun e he => hd e (List.mem_cons_of_mem _ he)) h)

/-! ### deeds on columns -/
def colRow (r : Row) : Deed → Row
  | .swap i j => (r.set i (rf r j)).set j (rf r i)
  | .turn i => r.set i (- rf r i)
  | .add i j k => r.set i (rf r i + k * rf r j)
theorem rf_set (r : Row) (i : Nat) (x : Int) (k : Nat) : rf (r.set i x) k = if i = k ∧ i < r.length then x else rf r k := by
  unfold rf
  rw [List.getD_eq_getElem?_getD, List.getElem?_set]
  by_cases e : i = k
  · subst e
    by_cases h : i < r.length
    · simp [h]
    · simp [h]
  · simp [e]
theorem colRow_len (r : Row) (d : Deed) : (colRow r d).length = r.length := by cases d <;> simp [colRow]
theorem rf_colRow {w : Nat} {r : Row} (hr : r.length = w) {d : Deed} (h : DeedOk w d) : rf (colRow r d) = colOp d (rf r) := by
  funext c
  cases d with
  | swap i j =>
    obtain ⟨h1, h2, h3⟩ := h
    unfold colRow colOp
    simp only [rf_set, List.length_set, hr]
    by_cases e1 : c = i
    · subst e1
      rw [if_neg (by omega), if_pos ⟨rfl, h1⟩, if_pos rfl]
    · by_cases e2 : c = j
      · subst e2
        rw [if_pos ⟨rfl, h2⟩, if_neg e1, if_pos rfl]
      · rw [if_neg (by omega), if_neg (by omega), if_neg e1, if_neg e2]
  | turn i =>
    have h : i < w := h
    unfold colRow colOp
    simp only [rf_set, hr]
    by_cases e1 : c = i
    · subst e1
      rw [if_pos ⟨rfl, h⟩, if_pos rfl]
    · rw [if_neg (by omega), if_neg e1]
  | add i j k =>
    obtain ⟨h1, h2, h3⟩ := h
    unfold colRow colOp
    simp only [rf_set, hr]
    by_cases e1 : c = i
    · subst e1
      rw [if_pos ⟨rfl, h1⟩, if_pos rfl]
    · rw [if_neg (by omega), if_neg e1]
def colsB (R : List Row) (d : Deed) : List Row := R.map fun r => colRow r d
theorem Tab.colsB {m w : Nat} {R : List Row} (h : Tab m w R) (d : Deed) : Tab m w (colsB R d) :=
  ⟨by unfold K94.colsB; rw [List.length_map]; exact h.len, fun r hr => by
    obtain ⟨s, hs, rfl⟩ := List.mem_map.mp hr
    rw [colRow_len]; exact h.wid s hs⟩
theorem ent_colsB {m w : Nat} {R : List Row} (h : Tab m w R) {d : Deed} (hd : DeedOk w d) {a : Nat} (ha : a < m) (c : Nat) : ent (colsB R d) a c = colOp d (ent R a) c := by
  unfold ent
  have ha' : a < R.length := by rw [h.len]; exact ha
  have e : (K94.colsB R d).getD a [] = colRow (R.getD a []) d := by simp [K94.colsB, ha']
  rw [e, rf_colRow (getD_len h ha) hd]
theorem lat_colsB {m w : Nat} {R : List Row} (h : Tab m w R) {d : Deed} (hd : DeedOk w d) {x : Vec} : Lat (colsB R d) (colOp d x) ↔ Lat R x := by
  have zero : ∀ e : Deed, colOp e (fun _ => 0) = fun _ => 0 := fun e => by
    funext c
    have := colOp_lin e (fun _ => 0) (fun _ => 0) (-1) c
    have z : (fun j : Nat => (0 : Int) + -1 * 0) = fun _ => 0 := by funext j; omega
    rw [z] at this
    omega
  constructor
  · intro L
    have key : ∀ v, Lat (colsB R d) v → Lat R (colOp (invD d) v) := by
      intro v hv
      induction hv with
      | zero => rw [zero]; exact .zero
      | add k _ hr ih =>
        obtain ⟨s, hs, rfl⟩ := List.mem_map.mp hr
        refine (ih.plusk (Lat.row hs) k).of_eq fun c => ?_
        rw [colOp_lin, rf_colRow (h.wid s hs) hd, colOp_inv hd]
    have := key _ L
    rw [colOp_inv hd] at this
    exact this
  · intro L
    induction L with
    | zero => rw [zero]; exact .zero
    | @add v r k _ hr ih =>
      have hm : colRow r d ∈ colsB R d := List.mem_map.mpr ⟨r, hr, rfl⟩
      refine (ih.plusk (Lat.row hm) k).of_eq fun c => ?_
      rw [colOp_lin, rf_colRow (h.wid r hr) hd]

/-! ### a table led by deeds on both sides -/
structure Led (m w : Nat) (R0 R : List Row) (rd cd : List Deed) : Prop where
  tab : Tab m w R
  rok : ∀ d ∈ rd, DeedOk m d
  cok : ∀ d ∈ cd, DeedOk w d
  lat : ∀ x, Lat R (colOps cd x) ↔ Lat R0 x
theorem Led.start {m w : Nat} {R : List Row} (h : Tab m w R) : Led m w R R [] [] := ⟨h, by simp, by simp, fun x => Iff.rfl⟩
theorem Led.row {m w : Nat} {R0 R : List Row} {rd cd : List Deed} (h : Led m w R0 R rd cd) {d : Deed} (hd : DeedOk m d) : Led m w R0 (rowsB R d) (rd ++ [d]) cd :=
  ⟨h.tab.rowsB hd, fun e he => by
    rcases List.mem_append.mp he with z | z
    · exact h.rok e z
    · rw [List.mem_singleton.mp z]; exact hd, h.cok, fun x => (same_rowsB h.tab hd).lat.trans (h.lat x)⟩
theorem Led.col {m w : Nat} {R0 R : List Row} {rd cd : List Deed} (h : Led m w R0 R rd cd) {d : Deed} (hd : DeedOk w d) : Led m w R0 (colsB R d) rd (cd ++ [d]) :=
  ⟨h.tab.colsB d, h.rok, fun e he => by
    rcases List.mem_append.mp he with z | z
    · exact h.cok e z
    · rw [List.mem_singleton.mp z]; exact hd, fun x => by rw [colOps_snoc]; exact (lat_colsB h.tab hd).trans (h.lat x)⟩
/-- diagonal rows -/
structure Diag (m w : Nat) (R : List Row) : Prop where
  off : ∀ i j, i ≠ j → ent R i j = 0
  nonneg : ∀ k, 0 ≤ ent R k k
  chain : ∀ i j, i < j → j < m → j < w → ent R i i ∣ ent R j j
def downsL (m w : Nat) (R : List Row) : List Int := (List.range (min w m)).map fun k => ent R k k
theorem rf_downsL {m w : Nat} {R : List Row} (h : Tab m w R) (k : Nat) : rf (downsL m w R) k = ent R k k := by
  have := rf_mkRow (w := min w m) (v := fun k => ent R k k) k
  show rf (mkRow (min w m) _) k = _
  rw [this]
  split
  · rfl
  · by_cases z : m ≤ k
    · exact (ent_out1 h z).symm
    · exact (ent_out2 h (by omega)).symm
theorem lat_diag {m w : Nat} {R : List Row} (h : Tab m w R) (hd : Diag m w R) {y : Vec} (hy : Supp w y) : Lat R y ↔ ∀ k, k < w → ent R k k ∣ y k := by
  constructor
  · intro L
    have : ∀ k, ent R k k ∣ y k := by
      induction L with
      | zero => intro k; exact ⟨0, by simp⟩
      | @add v r q _ hr ih =>
        intro k
        have ih := ih (fun j hj => by
          have := Lat.supp h.wid (w := w) (v := v) (by assumption)
          exact this j hj) k
        obtain ⟨i, hi, e⟩ := mem_getD h hr
        obtain ⟨c, hc⟩ := ih
        by_cases z : i = k
        · subst z
          refine ⟨c + q, ?_⟩
          have : rf r i = ent R i i := by unfold ent; rw [e]
          show v i + q * rf r i = _
          rw [hc, this]; grind
        · have : rf r k = 0 := by
            have := hd.off i k z
            unfold ent at this
            rw [e] at this; exact this
          exact ⟨c, by show v k + q * rf r k = _; rw [hc, this]; omega⟩
    exact fun k _ => this k
  · intro hk
    have key : ∀ n, n ≤ w → Lat R (fun j => if j < n then y j else 0) := by
      intro n
      induction n with
      | zero => intro _; exact Lat.zero.of_eq fun j => by simp
      | succ n ih =>
        intro hn
        obtain ⟨c, hc⟩ := hk n (by omega)
        by_cases z : n < m
        · refine ((ih (by omega)).add c (getD_mem h z)).of_eq fun j => ?_
          show (if j < n then y j else 0) + c * ent R n j = _
          by_cases e : j = n
          · subst e
            simp [hc]; grind
          · rw [hd.off n j (fun q => e q.symm)]
            by_cases e2 : j < n
            · simp [e2, show j < n + 1 by omega]
            · simp [e2, show ¬ j < n + 1 by omega]
        · have : y n = 0 := by rw [hc, ent_out1 h (by omega)]; omega
          refine (ih (by omega)).of_eq fun j => ?_
          by_cases e : j = n
          · subst e; simp [this]
          · by_cases e2 : j < n
            · simp [e2, show j < n + 1 by omega]
            · simp [e2, show ¬ j < n + 1 by omega]
    refine (key w (Nat.le_refl _)).of_eq fun j => ?_
    split
    · rfl
    · exact (hy j (by omega)).symm
theorem Led.rnd {m w : Nat} {R0 R : List Row} {rd cd : List Deed} (h : Led m w R0 R rd cd) (hd : Diag m w R) : Rnd w R0 (downsL m w R) (colOps cd) := by
  refine ⟨by simp [downsL]; omega, fun d hm => ?_, ?_, colOps_lin cd, ⟨backOps cd, fun y hy => ⟨backOps_supp h.cok hy, fun j => by rw [colOps_back h.cok]⟩⟩, fun x hx => colOps_supp h.cok hx, fun x hx => ?_⟩
  · obtain ⟨k, _, rfl⟩ := List.mem_map.mp hm
    exact hd.nonneg k
  · refine List.pairwise_map.mpr ((List.pairwise_lt_range).imp_of_mem fun {a b} ha hb hab => ?_)
    have := List.mem_range.mp hb
    exact hd.chain a b hab (by omega) (by omega)
  · rw [← h.lat, lat_diag h.tab hd (colOps_supp h.cok hx)]
    refine forall_congr' fun k => forall_congr' fun _ => ?_
    rw [rf_downsL h.tab]

/-! ### the table of deeds by columns, turned over, times a point -/
def dotN (x y : Vec) : Nat → Int
  | 0 => 0
  | n + 1 => dotN x y n + x n * y n
theorem dotN_lin (x y z : Vec) (k : Int) : ∀ n, dotN x (fun j => y j + k * z j) n = dotN x y n + k * dotN x z n
  | 0 => by simp [dotN]
  | n + 1 => by simp only [dotN, dotN_lin x y z k n]; grind
theorem dotN_eV (x : Vec) (k : Nat) : ∀ n, dotN x (eV k) n = if k < n then x k else 0
  | 0 => by simp [dotN]
  | n + 1 => by
    simp only [dotN, dotN_eV x k n]
    unfold eV
    by_cases e : n = k
    · subst e; simp
    · by_cases e2 : k < n
      · simp [e, e2, show k < n + 1 by omega]
      · simp [e, e2, show ¬ k < n + 1 by omega]
theorem dotN_zero (x : Vec) (w : Nat) : dotN x (fun _ => 0) w = 0 := by
  have := dotN_lin x (fun _ => 0) (fun _ => 0) (-1) w
  have q : (fun j : Nat => (0 : Int) + -1 * 0) = fun _ => 0 := by funext j; omega
  rw [q] at this
  omega
theorem dot_rowsB {m w : Nat} {M : List Row} (h : Tab m w M) {d : Deed} (hd : DeedOk m d) (x : Vec) (a : Nat) : dotN x (ent (rowsB M d) a) w = colOp d (fun c => dotN x (ent M c) w) a := by
  have e := ent_rowsB h hd a
  cases d with
  | swap i j =>
    simp only [colOp]
    by_cases e1 : a = i
    · have e' : ent (rowsB M (.swap i j)) a = ent M j := by funext c; rw [e c]; simp only [entB]; rw [if_pos e1]
      rw [e', if_pos e1]
    · by_cases e2 : a = j
      · have e' : ent (rowsB M (.swap i j)) a = ent M i := by funext c; rw [e c]; simp only [entB]; rw [if_neg e1, if_pos e2]
        rw [e', if_neg e1, if_pos e2]
      · have e' : ent (rowsB M (.swap i j)) a = ent M a := by funext c; rw [e c]; simp only [entB]; rw [if_neg e1, if_neg e2]
        rw [e', if_neg e1, if_neg e2]
  | turn i =>
    simp only [colOp]
    by_cases e1 : a = i
    · have e' : ent (rowsB M (.turn i)) a = fun c => 0 + (-1) * ent M a c := by funext c; rw [e c]; simp only [entB]; rw [if_pos e1]; omega
      rw [e', dotN_lin, if_pos e1, dotN_zero]
      have : dotN x (fun j => ent M a j) w = dotN x (ent M a) w := rfl
      omega
    · have e' : ent (rowsB M (.turn i)) a = ent M a := by funext c; rw [e c]; simp only [entB]; rw [if_neg e1]
      rw [e', if_neg e1]
  | add i j k =>
    simp only [colOp]
    by_cases e1 : a = i
    · have e' : ent (rowsB M (.add i j k)) a = fun c => ent M i c + k * ent M j c := by funext c; rw [e c]; simp only [entB]; rw [if_pos e1]
      rw [e', dotN_lin, if_pos e1]
    · have e' : ent (rowsB M (.add i j k)) a = ent M a := by funext c; rw [e c]; simp only [entB]; rw [if_neg e1]
      rw [e', if_neg e1]
theorem unit_tab (n : Nat) : Tab n n (unitRows n) := ⟨unitRows_len n, fun r hr => by
  obtain ⟨k, _, rfl⟩ := List.mem_map.mp hr
  exact unitRow_len n k⟩
theorem ent_unit {n i : Nat} (hi : i < n) : ent (unitRows n) i = eV i := by
  funext j
  unfold ent
  have : (unitRows n).getD i [] = unitRow n i := by simp [unitRows, hi]
  rw [this, rf_unitRow hi]
  rfl
/-- the point times the turned over table of the deeds is the point led by them -/
theorem dot_deeds {w : Nat} {x : Vec} : ∀ {ds : List Deed}, (∀ d ∈ ds, DeedOk w d) → ∀ a, a < w → dotN x (ent (rowsD (unitRows w) ds) a) w = colOps ds x a := by
  have key : ∀ (ds : List Deed) (M : List Row) (y : Vec), Tab w w M → (∀ d ∈ ds, DeedOk w d) → (∀ a, a < w → dotN x (ent M a) w = y a) → ∀ a, a < w → dotN x (ent (rowsD M ds) a) w = colOps ds y a := by
    intro ds
    induction ds with
    | nil => intro M y _ _ hy a ha; exact hy a ha
    | cons d ds ih =>
      intro M y hM hd hy a ha
      have h1 := hd d List.mem_cons_self
      refine ih (rowsB M d) (colOp d y) (hM.rowsB h1) (fun e he => hd e (List.mem_cons_of_mem _ he)) (fun b hb => ?_) a ha
      rw [dot_rowsB hM h1]
      cases d with
      | swap i j =>
        obtain ⟨z1, z2, _⟩ := h1
        simp only [colOp]
        rw [hy j z2, hy i z1, hy b hb]
      | turn i =>
        simp only [colOp, hy b hb]
      | add i j k =>
        obtain ⟨z1, z2, _⟩ := h1
        simp only [colOp, hy b hb, hy i z1, hy j z2]
  intro ds hd a ha
  exact key ds (unitRows w) x (unit_tab w) hd (fun b hb => by rw [ent_unit hb, dotN_eV, if_pos hb]) a ha
end K94

set_option Elab.async false
set_option linter.all false
set_option maxRecDepth 100000
set_option maxHeartbeats 4000000
/-! L0: the text by places, data in the heap, defs by name. -/
namespace K94
open PySem PySem.Spec PyProof.Rows L2
def top (i : Nat) : Stmt := PySem.Challenge.pw_stepforms_k94_whole_indexes_multiply.main.body.getD i (.Pass ⟨0, 0, 0, 0⟩)
abbrev s_is_whole : Stmt := top 4
abbrev s_unit_row : Stmt := top 6
abbrev s_unit : Stmt := top 7
abbrev s_row_times : Stmt := top 8
abbrev s_column_of : Stmt := top 9
abbrev s_turned_over : Stmt := top 10
abbrev s_lead_of : Stmt := top 12
abbrev s_is_place : Stmt := top 15
abbrev s_is_deed : Stmt := top 16
abbrev s_look_at : Stmt := top 17
abbrev s_rows_behind : Stmt := top 18
abbrev s_done : Stmt := top 19
abbrev s_deeds_table : Stmt := top 20
abbrev s_contrary_deed : Stmt := top 21
abbrev s_led_back : Stmt := top 22
abbrev s_lead_on : Stmt := top 24
abbrev s_clear_below : Stmt := top 25
abbrev s_clear_above : Stmt := top 26
abbrev s_steps_deeds : Stmt := top 27
abbrev s_steps_of : Stmt := top 28
abbrev s_leads_of : Stmt := top 29
abbrev s_rank_of : Stmt := top 30
abbrev s_lead_in : Stmt := top 32
abbrev s_taken : Stmt := top 33
abbrev s_rest_of : Stmt := top 34
abbrev s_form_of : Stmt := top 36
abbrev s_inside : Stmt := top 37
abbrev s_leads_multiplied : Stmt := top 38
abbrev s_index_of : Stmt := top 39
abbrev s_downs_of : Stmt := top 41
abbrev s_rested : Stmt := top 43
abbrev s_place_of : Stmt := top 44
abbrev s_Leading_init : Stmt := inClass (top 46) 0
abbrev s_Leading_form_now : Stmt := inClass (top 46) 1
abbrev s_Leading_swap_rows : Stmt := inClass (top 46) 2
abbrev s_Leading_swap_columns : Stmt := inClass (top 46) 3
abbrev s_Leading_add_row : Stmt := inClass (top 46) 4
abbrev s_Leading_add_column : Stmt := inClass (top 46) 5
abbrev s_Leading_turn_up : Stmt := inClass (top 46) 6
abbrev s_Leading_least_at : Stmt := inClass (top 46) 7
abbrev s_Leading_clear_at : Stmt := inClass (top 46) 8
abbrev s_Leading_undivided : Stmt := inClass (top 46) 9
abbrev s_Leading_settle : Stmt := inClass (top 46) 10
abbrev s_led_to_rounds : Stmt := top 47
abbrev s_rounds_of : Stmt := top 48
abbrev s_rounds_paper : Stmt := top 49
abbrev s_left_by : Stmt := top 51
abbrev s_classes_of : Stmt := top 52
abbrev s_shared_part : Stmt := top 53
abbrev s_order_of : Stmt := top 54
abbrev s_killed_by : Stmt := top 55
abbrev s_Lfeed : Stmt := top 57
abbrev s_Ldraw : Stmt := top 58
abbrev s_Ladded : Stmt := top 59
abbrev s_Llead : Stmt := top 60
abbrev s_Lsteps : Stmt := top 61
abbrev s_Lrest : Stmt := top 62
abbrev s_Lfirst : Stmt := top 63
abbrev s_Lsums : Stmt := top 64
abbrev s_Lis_in : Stmt := top 65
abbrev s_Lgone : Stmt := top 66
abbrev s_Lorder : Stmt := top 67
abbrev s_Lleft_right : Stmt := top 68
abbrev s_Lindex : Stmt := top 69
abbrev s_Linside_right : Stmt := top 70
abbrev s_law : Stmt := top 71

/-! ### heaps that grow: the tables of code objects may grow -/
abbrev TabL := List (Addr × Str)
structure Ex (T : TabL) (H H' : Hp) : Prop where
  ext : LamX.ExtN H H'
  tabs : LamX.Tabs T H → LamX.Tabs T H'
section
variable {T : TabL} {H H' H1 H2 : Hp} {p a : Addr} {o u : HO} {K : PySem.W.Frag} {xs : List V}
theorem Ex.refl (H : Hp) : Ex T H H := ⟨.refl H, id⟩
theorem Ex.trans (x : Ex T H H1) (y : Ex T H1 H2) : Ex T H H2 := ⟨x.ext.trans y.ext, fun t => y.tabs (x.tabs t)⟩
theorem tabs_new (t : LamX.Tabs T H) (h : ∀ b v, H b = some v → (∃ ps, v = .tbl ps) ∨ (∃ c q, v = LamX.CodeO c q) → H' b = some v) : LamX.Tabs T H' := fun x hx => by
  obtain ⟨ps, h1, h2, h3⟩ := t x hx
  refine ⟨ps, h _ _ h1 (.inl ⟨_, rfl⟩), h2, fun pos cv hc => ?_⟩
  obtain ⟨c, e1, e2⟩ := h3 pos cv hc
  exact ⟨c, e1, h _ _ e2 (.inr ⟨_, _, rfl⟩)⟩
theorem Ex.new (h : H p = none) : Ex T H (upd H p o) := ⟨fun b v e _ => by rw [upd_ne (ne_of_none e h)]; exact e, fun t => tabs_new t fun b v e _ => by rw [upd_ne (ne_of_none e h)]; exact e⟩
/-- an object that is neither a table nor a code object -/
def Plain (o : HO) : Prop := (∀ ps, o ≠ .tbl ps) ∧ ∀ c q, o ≠ LamX.CodeO c q
theorem plain_lst (xs : List V) : Plain (.lst xs) := ⟨fun _ => HO.noConfusion, fun _ _ => by unfold LamX.CodeO; exact HO.noConfusion⟩
theorem plain_dK (xs : List (Key × V)) : Plain (.dK xs) := ⟨fun _ => HO.noConfusion, fun _ _ => by unfold LamX.CodeO; exact HO.noConfusion⟩
theorem plain_ins (C dx : Addr) (fs : List (Str × V)) : Plain (.ins C dx fs) := ⟨fun _ => HO.noConfusion, fun _ _ => by unfold LamX.CodeO; exact HO.noConfusion⟩
theorem plain_own (x : Addr) : Plain (.own x) := ⟨fun _ => HO.noConfusion, fun _ _ => by unfold LamX.CodeO; exact HO.noConfusion⟩
/-- an own object, that H does not know, changes -/
theorem Ex.mut (x : Ex T H H') (h : H p = none) (hp : H' p = some u) (q : Plain u) : Ex T H (upd H' p o) :=
  ⟨fun b v e n => by rw [upd_ne (ne_of_none e h)]; exact x.ext b v e n, fun t => tabs_new (x.tabs t) fun b v e k => by
    have nb : b ≠ p := by
      rintro rfl
      rw [hp] at e
      cases e
      rcases k with ⟨ps, k⟩ | ⟨c, z, k⟩
      · exact q.1 ps k
      · exact q.2 c z k
    rw [upd_ne nb]; exact e⟩
theorem Ex.lst (x : Ex T H H') (h : H a = some (.lst xs)) : H' a = some (.lst xs) := x.ext _ _ h (plain_lst xs).1
theorem Ex.rd {u : HO} (x : Ex T H H') (h : Rd H a u) (n : ∀ ps, u ≠ .tbl ps) : Rd H' a u := by
  rcases h with h | ⟨o, h⟩
  · exact .inl (x.ext _ _ h n)
  · exact .inr ⟨o, x.ext _ _ h fun _ => HO.noConfusion⟩
theorem Ex.sqL (x : Ex T H H') (h : SqL K H a xs) : SqL K H' a xs := h.imp (fun h => x.rd h fun _ => HO.noConfusion) id
theorem Ex.sqT (x : Ex T H H') (h : SqT K H a xs) : SqT K H' a xs := h.imp (fun h => x.rd h fun _ => HO.noConfusion) id
theorem Ex.free (x : Ex T H H') (h : H' p = none) : (∀ ps, H p ≠ some (.tbl ps)) → H p = none := fun n => by
  cases e : H p with
  | none => rfl
  | some o =>
    have := x.ext p o e fun ps z => n ps (by rw [e, z])
    rw [h] at this
    cases this
end

/-! ### data -/
/-- a row: a tuple of numbers -/
def RowAt (K : PySem.W.Frag) (H : Hp) (a : Addr) (r : Row) : Prop := SqT K H a (r.map V.int)
/-- rows: each at its address -/
inductive All2 {α β : Type} (P : α → β → Prop) : List α → List β → Prop
  | nil : All2 P [] []
  | cons {a b l m} : P a b → All2 P l m → All2 P (a :: l) (b :: m)
theorem All2.length {α β : Type} {P : α → β → Prop} : ∀ {l : List α} {m : List β}, All2 P l m → l.length = m.length
  | _, _, .nil => rfl
  | _, _, .cons _ t => by simp [t.length]
theorem All2.imp {α β : Type} {P Q : α → β → Prop} (h : ∀ a b, P a b → Q a b) : ∀ {l : List α} {m : List β}, All2 P l m → All2 Q l m
  | _, _, .nil => .nil
  | _, _, .cons p t => .cons (h _ _ p) (t.imp h)
theorem All2.get {α β : Type} {P : α → β → Prop} : ∀ {l : List α} {m : List β}, All2 P l m → ∀ {i : Nat} {a : α}, l[i]? = some a → ∃ b, m[i]? = some b ∧ P a b
  | _, _, .nil, i, a, h => by simp at h
  | _, _, .cons p t, 0, a, h => by simp at h; subst h; exact ⟨_, rfl, p⟩
  | _, _, .cons p t, i + 1, a, h => by simpa using t.get (by simpa using h)
theorem All2.get' {α β : Type} {P : α → β → Prop} : ∀ {l : List α} {m : List β}, All2 P l m → ∀ {i : Nat} {b : β}, m[i]? = some b → ∃ a, l[i]? = some a ∧ P a b
  | _, _, .nil, i, a, h => by simp at h
  | _, _, .cons p t, 0, a, h => by simp at h; subst h; exact ⟨_, rfl, p⟩
  | _, _, .cons p t, i + 1, a, h => by simpa using t.get' (by simpa using h)
theorem All2.snoc {α β : Type} {P : α → β → Prop} {a : α} {b : β} (p : P a b) : ∀ {l : List α} {m : List β}, All2 P l m → All2 P (l ++ [a]) (m ++ [b])
  | _, _, .nil => .cons p .nil
  | _, _, .cons q t => .cons q (t.snoc p)
theorem All2.append {α β : Type} {P : α → β → Prop} {l2 : List α} {m2 : List β} (t2 : All2 P l2 m2) : ∀ {l : List α} {m : List β}, All2 P l m → All2 P (l ++ l2) (m ++ m2)
  | _, _, .nil => t2
  | _, _, .cons q t => .cons q (All2.append t2 t)
theorem All2.take {α β : Type} {P : α → β → Prop} : ∀ {l : List α} {m : List β} (n : Nat), All2 P l m → All2 P (l.take n) (m.take n)
  | _, _, 0, _ => by simp only [List.take_zero]; exact .nil
  | _, _, _ + 1, .nil => .nil
  | _, _, n + 1, .cons p t => .cons p (t.take n)
theorem All2.drop {α β : Type} {P : α → β → Prop} : ∀ {l : List α} {m : List β} (n : Nat), All2 P l m → All2 P (l.drop n) (m.drop n)
  | _, _, 0, t => t
  | _, _, _ + 1, .nil => .nil
  | _, _, n + 1, .cons _ t => t.drop n
theorem All2.set {α β : Type} {P : α → β → Prop} {a : α} {b : β} (p : P a b) : ∀ {l : List α} {m : List β} (i : Nat), All2 P l m → All2 P (l.set i a) (m.set i b)
  | _, _, _, .nil => .nil
  | _, _, 0, .cons _ t => .cons p t
  | _, _, i + 1, .cons q t => .cons q (t.set p i)
theorem All2.erase {α β : Type} {P : α → β → Prop} : ∀ {l : List α} {m : List β} (i : Nat), All2 P l m → All2 P (l.eraseIdx i) (m.eraseIdx i)
  | _, _, _, .nil => .nil
  | _, _, 0, .cons _ t => t
  | _, _, i + 1, .cons q t => .cons q (t.erase i)
/-- a tuple, a list of tuples of numbers -/
def RowsT (K : PySem.W.Frag) (H : Hp) (b : Addr) (R : List Row) : Prop := ∃ as : List Addr, SqT K H b (as.map V.ref) ∧ All2 (RowAt K H) as R
def RowsL (K : PySem.W.Frag) (H : Hp) (b : Addr) (R : List Row) : Prop := ∃ as : List Addr, SqL K H b (as.map V.ref) ∧ All2 (RowAt K H) as R
/-- a table (wide, rows) -/
def TabAt (K : PySem.W.Frag) (H : Hp) (a : Addr) (w : Nat) (R : List Row) : Prop := ∃ b, SqT K H a [.int (w : Int), .ref b] ∧ RowsT K H b R
section
variable {T : TabL} {H H' : Hp} {a b : Addr} {K : PySem.W.Frag} {r : Row} {R : List Row} {w : Nat}
theorem Ex.row (x : Ex T H H') (h : RowAt K H a r) : RowAt K H' a r := x.sqT h
theorem Ex.all (x : Ex T H H') {as : List Addr} (h : All2 (RowAt K H) as R) : All2 (RowAt K H') as R := h.imp fun _ _ => x.row
theorem Ex.rowsT (x : Ex T H H') (h : RowsT K H b R) : RowsT K H' b R := let ⟨as, h1, h2⟩ := h; ⟨as, x.sqT h1, x.all h2⟩
theorem Ex.rowsL (x : Ex T H H') (h : RowsL K H b R) : RowsL K H' b R := let ⟨as, h1, h2⟩ := h; ⟨as, x.sqL h1, x.all h2⟩
theorem Ex.tab (x : Ex T H H') (h : TabAt K H a w R) : TabAt K H' a w R := let ⟨b, h1, h2⟩ := h; ⟨b, x.sqT h1, x.rowsT h2⟩
end
theorem row_of {K : PySem.W.Frag} {H : Hp} {a : Addr} {r : Row} (h : H a = some (.tup (r.map V.int))) : RowAt K H a r := .inl (.inl h)
theorem sqT_of {K : PySem.W.Frag} {H : Hp} {a : Addr} {xs : List V} (h : H a = some (.tup xs)) : SqT K H a xs := .inl (.inl h)
theorem map_get {r : Row} {i : Nat} {v : V} (h : (r.map V.int)[i]? = some v) : ∃ x, r[i]? = some x ∧ v = .int x := by
  rw [List.getElem?_map] at h
  cases e : r[i]? with
  | none => rw [e] at h; cases h
  | some x => rw [e] at h; cases h; exact ⟨x, rfl, rfl⟩
theorem ref_get {as : List Addr} {i : Nat} {v : V} (h : (as.map V.ref)[i]? = some v) : ∃ x, as[i]? = some x ∧ v = .ref x := by
  rw [List.getElem?_map] at h
  cases e : as[i]? with
  | none => rw [e] at h; cases h
  | some x => rw [e] at h; cases h; exact ⟨x, rfl, rfl⟩
theorem int_at {r : Row} {i : Nat} (h : i < r.length) : (r.map V.int)[i]? = some (.int (rf r i)) := by
  rw [List.getElem?_map, rf_get h]; rfl
theorem atI_int {r : Row} {i : Nat} (h : i < r.length) : atI (r.map V.int) (i : Int) = some (.int (rf r i)) := atI_nat (int_at h)
theorem sz {n : Nat} (h : n ≤ 100000) : n ≤ sizeLine := Nat.le_trans h (by decide)
theorem szl {n : Nat} (h : n < 100000) : n < sizeLine := Nat.lt_of_lt_of_le h (by decide)

/-! ### defs by name -/
/-- a def of the module's own name -/
structure Def (K : PySem.W.Frag) (mg : Str → Option Value) (x : Str) (st : Stmt) : Prop where
  ex : ∃ (f : Addr) (fd : FuncData), FunD K x x (defArgs st) (defBody st) (defScope st) [] [] f fd ∧ mg x = some (.ref f)
/-- the built-ins are as booted -/
structure Bi (mg : Str → Option Value) : Prop where
  len : mg "len" = none
  tuple : mg "tuple" = none
  range : mg "range" = none
  int : mg "int" = none
  list : mg "list" = none
  isinstance : mg "isinstance" = none
  bool : mg "bool" = none
  str : mg "str" = none
  min : mg "min" = none
  abs : mg "abs" = none
  all : mg "all" = none
  any : mg "any" = none
  zip : mg "zip" = none
  enumerate : mg "enumerate" = none
  sorted : mg "sorted" = none
  repr : mg "repr" = none
section
variable {P : Program} {w : World} {K : PySem.W.Frag} {mg : Str → Option Value} {base : Heap}
theorem Def.cal {x : Str} {st : Stmt} {N ps : List Str} {k : Nat} {sp : Sp} (F : Def K mg x st) (S : FnScope N ps (defScope st)) (len : ∀ vs H Q E, sp vs H Q E → vs.length = ps.length)
    (hb : ∀ (kV doc pm : Value) (an : Option Addr) (cdv ct : Value) (us : List Value), us.length = ps.length → bindArgs (PySem.W.fnOf x x (defArgs st) (defBody st) (defScope st) .none kV doc pm an cdv ct) ⟨us, []⟩ = pure (ps.zip us))
    (hbody : ∀ (f : Addr) (cdv : Value) (A : Around) (outer : List Env) (s : Shared) (H : Hp) (vs : List V) (Q : VK) (E : XK), Room k (A.deeper (envOfC x (defScope st) s.heap.objs.size f cdv)) → sp vs H Q E →
      ∃ t, PSs (cxOf CX0 P w K mg base N x (defScope st) f cdv A outer s H E).nox (defBody st) t ∧ t { nx := fun _ H' => Q .non H', rt := Q } (start N vs) H) : C8.Cal P w K mg base (k + 1) x sp [] := by
  obtain ⟨f, fd, F, hm⟩ := F.ex
  refine ⟨f, fd, ps, [], ?_, hm, F.kp, F.bindsN hb, .nil⟩
  refine F.ok S len fun cdv A outer s H vs Q E hr hsp => ?_
  obtain ⟨t, h, q⟩ := hbody f cdv A outer s H vs Q E hr hsp
  exact ⟨t, h.nox, q⟩
end
end K94

set_option Elab.async false
set_option linter.all false
set_option maxRecDepth 100000
set_option maxHeartbeats 4000000
/-! L1: walks of enumerate(tuple), zip(list, tuple). -/
namespace K94
open PySem PySem.Spec PyProof.Rows L2
/-! ### enumerate(t) -/
def IteT (K : PySem.W.Frag) (a : Addr) : It :=
  ⟨fun i H => ∃ (xs : List V) (x : V), SqT K H a xs ∧ xs[i]? = some x, fun i H v H' => ∃ T x, v = .ref T ∧ H T = none ∧ H' = upd H T (.tup [.int (i : Nat), x]) ∧ ∀ xs, SqT K H a xs → xs[i]? = some x, fun i H => ∃ xs : List V, SqT K H a xs ∧ xs.length ≤ i⟩
theorem turn_enumT {P : Program} {w : World} {K : PySem.W.Frag} {elts : List Expr} {kk : Nat} {tpos : Pos} (a e it : Addr) :
    Turn P w K (.Tuple elts kk tpos) (IteT K a) [e, it] e (fun i h => (∃ old, IsEnum h e it ((i : Nat) : Int) old) ∧ h.IsTupleIter it a i ∧ e ≠ it) where
  mem := by simp
  obj := fun i h st b hb => by
    obtain ⟨⟨old, he⟩, ⟨o, ho, hc, hd⟩, _⟩ := st
    have e' : b = e ∨ b = it := by simpa using hb
    rcases e' with z | z
    · rw [z]; exact ⟨_, he, fun v q => nomatch q⟩
    · rw [z]; exact ⟨o, ho, fun v q => by rw [hd] at q; cases q⟩
  keep := fun i h h' st k => let ⟨⟨old, he⟩, hi, hne⟩ := st; ⟨⟨old, k e (by simp) _ he⟩, hi.at fun o q => k it (by simp) o q, hne⟩
  item := by
    intro X hP hw hK hc i pins s σ H E I hf st hg
    subst hP hw hK
    obtain ⟨⟨old, he⟩, hit, hne⟩ := st
    obtain ⟨xs, x, hq, hx⟩ := hg
    obtain ⟨its, rv, p, hz⟩ := I.tuple hq
    obtain ⟨u, hu, ru⟩ := rv.get hx
    have hpt : s.heap.IsTuple a its.toArray := p
    have hel : e < s.heap.objs.size := Heap.lt_size he
    have hil : it < s.heap.objs.size := by obtain ⟨_, q, _⟩ := hit; exact Heap.lt_size q
    have nea : e ≠ a := by
      rintro rfl
      obtain ⟨o, ho, hcl, _⟩ := hpt
      rw [he] at ho
      cases ho
      exact absurd (show Value.type "enumerate" = Value.type "tuple" from hcl) (by decide +kernel)
    have nia : a ≠ it := by
      rintro rfl
      obtain ⟨o, ho, hcl, _⟩ := hpt
      obtain ⟨o', ho', hcl', _⟩ := hit
      rw [ho'] at ho
      cases ho
      rw [hcl'] at hcl
      exact absurd hcl (by decide +kernel)
    have hlt : i < its.toArray.size := by
      have := (List.getElem?_eq_some_iff.mp hu).1
      simpa using this
    refine wpAny_pyNext_enum_itemD (Draws.tuple (prog := X.prog) (w := X.w) (A := X.A.in1) (I.ok.hd hc) it a nia its.toArray) he ⟨hit, hpt⟩ hlt hne (by simp only [List.mem_cons, List.not_mem_nil, or_false, not_or]; exact ⟨hne, nea⟩) fun x' h' tk hP ho st' hT hsz hk => ?_
    have ex' : x' = u := by
      have h1 : its.toArray[i]? = some x' := hP
      have h2 : its.toArray[i]? = some u := by simpa using hu
      rw [h2] at h1
      exact (Option.some.inj h1).symm
    subst ex'
    refine ⟨_, rfl, wpAny_letOwnedTupleGo_enum (s := { s with heap := h', toks := tk + 1 }) ho fun h'' he' sb => ?_⟩
    have hT2 : h''.get? s.heap.objs.size = some { cls := .type "tuple", data := .seq #[.int i tk, x'] } := (sb.2 _ (Nat.ne_of_gt hel)).trans hT
    have new : ObjOk X.prog X.w (upd H s.heap.objs.size (.tup [.int (i : Nat), x])) h'' s.heap.objs.size (.tup [.int (i : Nat), x]) :=
      ⟨by show 2 ≤ sizeLine; decide, [.int i tk, x'], .cons ⟨_, rfl⟩ (.cons ru .nil), ⟨_, hT2, rfl, _, rfl⟩⟩
    have I1 : Inv X pins σ (upd H s.heap.objs.size (.tup [.int (i : Nat), x])) { s with heap := h'', toks := tk + 1 } :=
      I.turnedNew (ch := [e, it]) (fun b ob hb q => (sb.2 b (fun z => hb (by simp [z]))).trans (hk b ob (fun z => hb (by simp [z])) (fun z => hb (by simp [z])) q)) hf (Nat.le_refl _) new
    refine ⟨.ref s.heap.objs.size, _, I1, rfl, ⟨_, x, rfl, I.hok.fresh (Nat.le_refl _), rfl, fun ys hy => by rw [I.tuple_inj hy hq]; exact hx⟩, ⟨⟨x', ?_⟩, st'.1.at fun o q => (sb.2 it (Ne.symm hne)).trans q, hne⟩, fun b hb => ?_⟩
    · have e1 : ((i + 1 : Nat) : Int) = (i : Int) + 1 := by omega
      rw [e1]; exact he'
    · have hb' : b < s.heap.objs.size := by
        have e' : b = e ∨ b = it := by simpa using hb
        rcases e' with z | z
        · rw [z]; exact hel
        · rw [z]; exact hil
      rw [upd_ne (Nat.ne_of_lt hb')]
      exact (hf b hb).1
  done := by
    intro X hP hw hK hc i pins s σ H E I hf st hg
    subst hP hw hK
    obtain ⟨⟨old, he⟩, hit, hne⟩ := st
    obtain ⟨xs, hq, hx⟩ := hg
    obtain ⟨its, rv, p, hz⟩ := I.tuple hq
    have hpt : s.heap.IsTuple a its.toArray := p
    obtain ⟨f0, f1, f2, f3, f4, f5⟩ := hf it (by simp)
    have hl := rv.length
    have hT : s.TypeIs (.ref e) "enumerate" := ⟨_, he, rfl⟩
    unfold pyNext
    refine wpAny_bind (wpAny_attempt (wpAny_callSpecial?_slot (name := Str.ofString "__next__") hT F.slot_enumerate_next
      (wpAny_call_entry F.slot_enumerate_next hT F.entry_enumerate_next ?_ (F.args_enumerate_next_1 _))))
    show wpAny _ _ (field (.ref e) 2 >>= _) _ _ _
    refine wpAny_bind (wpAny_field he rfl (x := .ref it) rfl ?_)
    refine wpAny_bind (wpAny_nextOf_tuple_end (I.ok.hd hc) hit hpt (by simp; omega) fun h' x he' hx' => ?_)
    obtain ⟨o, ho, hc⟩ := hx'
    refine wpAny_bind (wpAny_isInstance (T := "StopIteration") (b := true) ⟨o, ho, hc⟩ isSubtype_stop ?_)
    exact wpAny_pure ⟨rfl, I.turned (t' := s.toks) (fun b o hb q => he' b o hb q) f0 f1 f3 f4 f5⟩
  self := fun A i s Q E st h => let ⟨⟨_, he⟩, _⟩ := st; wpAny_pyIter_enum he h
set_option maxHeartbeats 1000000 in
theorem meets_enumerate_newT {v : Value} {o : Obj} {H : Heap → Prop} (B : Begins v o H) :
    Meets (Builtin.«enumerate.__new__» ⟨[.type "enumerate", v], []⟩) (fun _ R s => H s.heap ∧
      R (.ok (.ret (.ref (s.heap.push o).objs.size))) { s with heap := (s.heap.push o).push { cls := .type "enumerate", data := .fields #[.none, .bool false, .ref s.heap.objs.size, rawInt 0, .none, .none] } }) :=
  .of_wp fun prog w A R s h => by
    obtain ⟨hp, g, d, tk, os⟩ := s; obtain ⟨h1, h⟩ := h
    have hsub := sub_enumerate
    have q1 : ∀ {A' : Around} {E : Value → Shared → Prop} {Q : Value → Shared → Prop}, Q (.ref hp.objs.size) ⟨hp.push o, g, d, tk, os⟩ → wpAny (model prog w) A' (pyIter v) Q E ⟨hp, g, d, tk, os⟩ :=
      fun q => B.iter prog w _ _ ⟨hp, g, d, tk, os⟩ _ h1 q
    wp_walk using q1
    refine wpAny_stack_any fun st => wpAny_pure ?_
    split
    · rename_i c _ _ _ _ _
      cases (c == Value.type "enumerate")
      · wp_walk using q1
        exact ⟨_, rfl, h⟩
      · wp_walk using q1
        exact ⟨_, rfl, h⟩
    · wp_walk using q1
      exact ⟨_, rfl, h⟩
theorem call_enumerate_tuple {prog : Program} {w : World} {A : Around} {E : Value → Shared → Prop} {s : Shared} {l : Addr} {items : Array Value} {Q : Value → Shared → Prop} (hL : s.heap.IsTuple l items)
    (h : ∀ h', IsEnum h' (s.heap.objs.size + 1) s.heap.objs.size 0 .none → h'.IsTupleIter s.heap.objs.size l 0 → h'.objs.size = s.heap.objs.size + 2 →
      (∀ b o, s.heap.get? b = some o → h'.get? b = some o) → Q (.ref (s.heap.objs.size + 1)) { s with heap := h' }) :
    wpAny (model prog w) A (call (.type "enumerate") [.ref l]) Q E s := by
  refine callType_new F.called_enumerate (by decide) (F.typeCall_enumerate_1 _) (F.newCall_enumerate_1 _) (fun obj => F.args_object_init_2 obj _) F.entry_enumerate_new
    (meets_enumerate_newT (begins_tuple l items)) ⟨hL, ?_⟩
  have hz : (s.heap.push { cls := .type "tuple_iterator", data := .fields #[.ref l, .int 0 0] }).objs.size = s.heap.objs.size + 1 := Heap.size_push ..
  show _ ∧ _
  rw [hz]
  have he : IsEnum ((s.heap.push { cls := .type "tuple_iterator", data := .fields #[.ref l, .int 0 0] }).push
      { cls := .type "enumerate", data := .fields #[.none, .bool false, .ref s.heap.objs.size, rawInt 0, .none, .none] }) (s.heap.objs.size + 1) s.heap.objs.size 0 .none := by
    have := Heap.get?_push_size (s.heap.push { cls := .type "tuple_iterator", data := .fields #[.ref l, .int 0 0] })
      (o := { cls := .type "enumerate", data := .fields #[.none, .bool false, .ref s.heap.objs.size, rawInt 0, .none, .none] }) rfl
    rw [hz] at this; exact this
  refine ⟨⟨_, he, rfl⟩, h _ he ⟨_, Heap.get?_push_of_some _ (Heap.get?_push_size _ rfl), rfl, rfl⟩ (by rw [Heap.size_push, hz]) fun b o x => Heap.get?_push_of_some _ (Heap.get?_push_of_some _ x)⟩
def iEnumT (K : PySem.W.Frag) (ta : TA) : TI := fun σ H R => ta σ H fun vs H1 => ∃ a xs, vs = [.ref a] ∧ SqT K H1 a xs ∧ R (IteT K a) H1
theorem pi_enumT {X : Cx} {e : Expr} {ta : TA} {p pos tpos : Pos} {elts : List Expr} {kk : Nat} (hg : Gl X "enumerate") (hm : X.mg "enumerate" = none) (ha : PA X [e] ta) (hs : starEach [e] X.env = [(false, eval e X.env)] := by rfl) :
    PI X (.Tuple elts kk tpos) (.Call (.Name "enumerate" p) [e] [] pos) (iEnumT X.K ta) := by
  refine ⟨fun pins s σ H R I h => ?_⟩
  refine Call_ (ld_blt I hg hm boot_enumerate (PyProof.Rows.callWith_type1 (thn (ha.run pos pins s σ H _ I h) fun us s1 ⟨vs, H1, I1, r1, q1⟩ => ?_) hs rfl))
  obtain ⟨a, xs, ex, hq, q⟩ := q1
  subst ex
  cases r1 with
  | cons r rr =>
    cases rr
    cases r
    obtain ⟨its, rv, p', hz⟩ := I1.tuple hq
    refine call_enumerate_tuple (show s1.heap.IsTuple a its.toArray from p') fun h' he hit hsz hk => wpAny_pyIter_enum he ?_
    have I2 : Inv X pins σ H1 { s1 with heap := h' } := I1.kept (t' := s1.toks) hk
    refine ⟨s1.heap.objs.size + 1, [s1.heap.objs.size + 1, s1.heap.objs.size], _, _, H1, rfl, I2, turn_enumT a (s1.heap.objs.size + 1) s1.heap.objs.size, ⟨⟨.none, he⟩, hit, Nat.succ_ne_self _⟩, fun b hb => ?_, q⟩
    have e' : b = s1.heap.objs.size + 1 ∨ b = s1.heap.objs.size := by simpa using hb
    have hle : s1.heap.objs.size ≤ b := by
      rcases e' with z | z
      · rw [z]; exact Nat.le_add_right _ _
      · rw [z]; exact Nat.le_refl _
    exact I1.fpOk hle (I1.hok.fresh hle)
theorem walk_enumT {K : PySem.W.Frag} {a : Addr} {xs : List V} : Walk (IteT K a) xs.length (fun H => SqT K H a xs) (YPair (fun i => some (.int (i : Nat))) (fun i => xs[i]?)) := by
  refine ⟨fun i _ hi q => ⟨xs, xs[i], q, by simp [hi]⟩, fun _ q => ⟨xs, q, Nat.le_refl _⟩, fun i H v H' _ q y => ?_⟩
  obtain ⟨T, x, h1, h2, h3, h4⟩ := y
  exact ⟨T, .int (i : Nat), x, h1, h2, h3, rfl, h4 xs q⟩

/-! ### zip(list, tuple) -/
def ItzM (K : PySem.W.Frag) (a b : Addr) : It :=
  ⟨fun i H => ∃ (xs ys : List V) (x y : V), SqL K H a xs ∧ SqT K H b ys ∧ xs[i]? = some x ∧ ys[i]? = some y,
    fun i H v H' => ∃ T x y, v = .ref T ∧ H T = none ∧ H' = upd H T (.tup [x, y]) ∧ (∀ xs, SqL K H a xs → xs[i]? = some x) ∧ ∀ ys, SqT K H b ys → ys[i]? = some y,
    fun i H => ∃ xs ys : List V, SqL K H a xs ∧ SqT K H b ys ∧ xs.length = i ∧ ys.length = i⟩
theorem turn_zipM {P : Program} {w : World} {K : PySem.W.Frag} {elts : List Expr} {kk : Nat} {tpos : Pos} {a b z TI TO i1 i2 : Addr} (S : ZipSep2 z TI TO i1 i2 [i1, a] [i2, b]) :
    Turn P w K (.Tuple elts kk tpos) (ItzM K a b) [z, TI, TO, i1, i2] z (fun i h => IsZip h z TI TO .none ∧ IsTupOf2 h TI (.ref i1) (.ref i2) ∧ (∃ x y, IsTupOf2 h TO x y) ∧ h.IsListIter i1 a i ∧ h.IsTupleIter i2 b i) where
  mem := by simp
  obj := fun i h st c hc => by
    obtain ⟨hz, hTI, ⟨x, y, hTO⟩, ⟨o1, e1, _, d1⟩, ⟨o2, e2, _, d2⟩⟩ := st
    have e' : c = z ∨ c = TI ∨ c = TO ∨ c = i1 ∨ c = i2 := by simpa using hc
    rcases e' with q | q | q | q | q
    · rw [q]; exact ⟨_, hz, fun v q => nomatch q⟩
    · rw [q]; exact ⟨_, hTI, fun v q => nomatch q⟩
    · rw [q]; exact ⟨_, hTO, fun v q => nomatch q⟩
    · rw [q]; exact ⟨o1, e1, fun v q => by rw [d1] at q; cases q⟩
    · rw [q]; exact ⟨o2, e2, fun v q => by rw [d2] at q; cases q⟩
  keep := fun i h h' st k => by
    obtain ⟨hz, hTI, ⟨x, y, hTO⟩, h1, h2⟩ := st
    exact ⟨k z (by simp) _ hz, k TI (by simp) _ hTI, ⟨x, y, k TO (by simp) _ hTO⟩, h1.at fun o q => k i1 (by simp) o q, h2.at fun o q => k i2 (by simp) o q⟩
  item := by
    intro X hP hw hK hc i pins s σ H E I hf st hg
    subst hP hw hK
    obtain ⟨hz, hTI, ⟨x0, y0, hTO⟩, h1, h2⟩ := st
    obtain ⟨xs, ys, x, y, hqx, hqy, hx, hy⟩ := hg
    obtain ⟨its, rv, p, _⟩ := I.list hqx
    obtain ⟨its2, rv2, p2, _⟩ := I.tuple hqy
    obtain ⟨u, hu, ru⟩ := rv.get hx
    obtain ⟨u2, hu2, ru2⟩ := rv2.get hy
    have hpt : s.heap.IsTuple b its2.toArray := p2
    have hzl : z < s.heap.objs.size := Heap.lt_size hz
    have lt1 : i < its.toArray.size := by
      have := (List.getElem?_eq_some_iff.mp hu).1
      simpa using this
    have lt2 : i < its2.toArray.size := by
      have := (List.getElem?_eq_some_iff.mp hu2).1
      simpa using this
    have na1 : a ≠ i1 := by
      rintro rfl
      obtain ⟨o, ho, hcl, _⟩ := p.isList
      obtain ⟨o', ho', hcl', _⟩ := h1
      rw [ho'] at ho
      cases ho
      rw [hcl'] at hcl
      exact absurd hcl (by decide +kernel)
    have nb2 : b ≠ i2 := by
      rintro rfl
      obtain ⟨o, ho, hcl, _⟩ := hpt
      obtain ⟨o', ho', hcl', _⟩ := h2
      rw [ho'] at ho
      cases ho
      rw [hcl'] at hcl
      exact absurd hcl (by decide +kernel)
    refine wpAny_pyNext_zipD2_item S (Draws.list (prog := X.prog) (w := X.w) (A := X.A.in1) (I.ok.hd hc) i1 a na1 its.toArray) (Draws.tuple (prog := X.prog) (w := X.w) (A := X.A.in1) (I.ok.hd hc) i2 b nb2 its2.toArray)
      hz hTI hTO ⟨h1, p.isList⟩ ⟨h2, hpt⟩ lt1 lt2 fun x1 x2 h' tk y1 y2 z' TO' st1 st2 hT hsz hk => ?_
    have ex1 : x1 = u := by
      have q1 : its.toArray[i]? = some x1 := y1
      have q2 : its.toArray[i]? = some u := by simpa using hu
      rw [q2] at q1
      exact (Option.some.inj q1).symm
    have ex2 : x2 = u2 := by
      have q1 : its2.toArray[i]? = some x2 := y2
      have q2 : its2.toArray[i]? = some u2 := by simpa using hu2
      rw [q2] at q1
      exact (Option.some.inj q1).symm
    subst ex1
    subst ex2
    refine ⟨_, rfl, wpAny_letOwnedTupleGo_zip (s := { s with heap := h', toks := tk }) z' fun h'' z'' sb => ?_⟩
    have hT2 : h''.get? s.heap.objs.size = some { cls := .type "tuple", data := .seq #[x1, x2] } := (sb.2 _ (Nat.ne_of_gt hzl)).trans hT
    have new : ObjOk X.prog X.w (upd H s.heap.objs.size (.tup [x, y])) h'' s.heap.objs.size (.tup [x, y]) :=
      ⟨by show 2 ≤ sizeLine; decide, [x1, x2], .cons ru (.cons ru2 .nil), ⟨_, hT2, rfl, _, rfl⟩⟩
    have I1 : Inv X pins σ (upd H s.heap.objs.size (.tup [x, y])) { s with heap := h'', toks := tk } :=
      I.turnedNew (t' := tk) (ch := [z, TI, TO, i1, i2]) (fun c o hb q => (sb.2 c (fun q' => hb (by simp [q']))).trans (hk c o (fun q' => hb (by simp [q'])) (fun q' => hb (by simp [q'])) (fun q' => hb (by simp [q'])) (fun q' => hb (by simp [q'])) q)) hf (Nat.le_refl _) new
    refine ⟨.ref s.heap.objs.size, _, I1, rfl, ⟨_, x, y, rfl, I.hok.fresh (Nat.le_refl _), rfl, fun l hl => by rw [I.list_inj hl hqx]; exact hx, fun l hl => by rw [I.tuple_inj hl hqy]; exact hy⟩, ⟨z'', ?_, ⟨x1, x2, ?_⟩, ?_, ?_⟩, fun c hcm => ?_⟩
    · exact (sb.2 _ S.TIz).trans (hk _ _ S.TIz S.TITO S.TIi1 S.TIi2 hTI)
    · exact (sb.2 _ S.TOz).trans TO'
    · exact st1.1.at fun o q => (sb.2 _ (Ne.symm S.zi1)).trans q
    · exact st2.1.at fun o q => (sb.2 _ (Ne.symm S.zi2)).trans q
    · have hlt : c < s.heap.objs.size := by
        have e' : c = z ∨ c = TI ∨ c = TO ∨ c = i1 ∨ c = i2 := by simpa using hcm
        rcases e' with q | q | q | q | q
        · rw [q]; exact hzl
        · rw [q]; exact Heap.lt_size hTI
        · rw [q]; exact Heap.lt_size hTO
        · rw [q]; obtain ⟨_, e1, _⟩ := h1; exact Heap.lt_size e1
        · rw [q]; obtain ⟨_, e2, _⟩ := h2; exact Heap.lt_size e2
      rw [upd_ne (Nat.ne_of_lt hlt)]
      exact (hf c hcm).1
  done := by
    intro X hP hw hK hc i pins s σ H E I hf st hg
    subst hP hw hK
    obtain ⟨hz, hTI, ⟨x0, y0, hTO⟩, h1, h2⟩ := st
    obtain ⟨xs, ys, hqx, hqy, hl1, hl2⟩ := hg
    obtain ⟨its, rv, p, _⟩ := I.list hqx
    obtain ⟨its2, rv2, p2, _⟩ := I.tuple hqy
    have hpt : s.heap.IsTuple b its2.toArray := p2
    have l1 := rv.length
    have l2 := rv2.length
    have na1 : a ≠ i1 := by
      rintro rfl
      obtain ⟨o, ho, hcl, _⟩ := p.isList
      obtain ⟨o', ho', hcl', _⟩ := h1
      rw [ho'] at ho
      cases ho
      rw [hcl'] at hcl
      exact absurd hcl (by decide +kernel)
    have nb2 : b ≠ i2 := by
      rintro rfl
      obtain ⟨o, ho, hcl, _⟩ := hpt
      obtain ⟨o', ho', hcl', _⟩ := h2
      rw [ho'] at ho
      cases ho
      rw [hcl'] at hcl
      exact absurd hcl (by decide +kernel)
    exact wpAny_pyNext_zipD2_end S (Draws.list (prog := X.prog) (w := X.w) (A := X.A.in1) (I.ok.hd hc) i1 a na1 its.toArray) (Draws.tuple (prog := X.prog) (w := X.w) (A := X.A.in1) (I.ok.hd hc) i2 b nb2 its2.toArray)
      hz hTI hTO ⟨h1, p.isList⟩ ⟨h2, hpt⟩ (by simp; omega) (by simp; omega) (.inl (by simp; omega)) fun h' tk hk => ⟨rfl, I.turnedL (t' := tk) (ch := [z, TI, TO, i1, i2]) (fun c o hb q =>
      hk c o (fun q' => hb (by simp [q'])) (fun q' => hb (by simp [q'])) (fun q' => hb (by simp [q'])) (fun q' => hb (by simp [q'])) q) hf⟩
  self := fun A i s Q E st h => wpAny_pyIter_zip st.1 h
def iZipM (K : PySem.W.Frag) (ta : TA) : TI := fun σ H R => ta σ H fun vs H1 => ∃ a b xs ys, vs = [.ref a, .ref b] ∧ SqL K H1 a xs ∧ SqT K H1 b ys ∧ R (ItzM K a b) H1
theorem pi_zipM {X : Cx} {e e2 : Expr} {ta : TA} {p pos tpos : Pos} {elts : List Expr} {kk : Nat} (hg : Gl X "zip") (hm : X.mg "zip" = none) (ha : PA X [e, e2] ta)
    (hs : starEach [e, e2] X.env = (false, eval e X.env) :: starEach [e2] X.env := by rfl) (hpl : (backTo pos (starEach [e2] X.env)).any (·.1) = false := by rfl) :
    PI X (.Tuple elts kk tpos) (.Call (.Name "zip" p) [e, e2] [] pos) (iZipM X.K ta) := by
  refine ⟨fun pins s σ H R I h => ?_⟩
  refine Call_ (ld_blt I hg hm PyProof.Rows.boot_zip (PyProof.Rows.callWith_type1 (thn (ha.run pos pins s σ H _ I h) fun us s1 ⟨vs, H1, I1, r1, q1⟩ => ?_) hs hpl))
  obtain ⟨a, b, xs, ys, ex, hqx, hqy, q⟩ := q1
  subst ex
  cases r1 with
  | cons r rr =>
    cases rr with
    | cons r' rr =>
      cases rr
      cases r
      cases r'
      obtain ⟨its, rv, p1, _⟩ := I1.list hqx
      obtain ⟨its2, rv2, p2, _⟩ := I1.tuple hqy
      have hpt : s1.heap.IsTuple b its2.toArray := p2
      have la : a < s1.heap.objs.size := p1.lt
      have lb : b < s1.heap.objs.size := by obtain ⟨o, ho, _⟩ := id hpt; exact Heap.lt_size ho
      refine zip_begins2 (begins_list a its.toArray) (begins_tuple b its2.toArray) p1.isList hpt fun h' hz hTI hTO h1 h2 hsz hk => wpAny_pyIter_zip hz ?_
      have I2 : Inv X pins σ H1 { s1 with heap := h' } := I1.kept (t' := s1.toks) hk
      have S : ZipSep2 (s1.heap.objs.size + 4) (s1.heap.objs.size + 2) (s1.heap.objs.size + 3) s1.heap.objs.size (s1.heap.objs.size + 1) [s1.heap.objs.size, a] [s1.heap.objs.size + 1, b] :=
        zip_sep2 (fp1 := [a]) (fp2 := [b]) (fun c hc => by rw [List.mem_singleton.mp hc]; exact la) (fun c hc => by rw [List.mem_singleton.mp hc]; exact lb)
      refine ⟨s1.heap.objs.size + 4, [s1.heap.objs.size + 4, s1.heap.objs.size + 2, s1.heap.objs.size + 3, s1.heap.objs.size, s1.heap.objs.size + 1], _, _, H1, rfl, I2, turn_zipM S, ⟨hz, hTI, ⟨_, _, hTO⟩, ⟨_, h1, rfl, rfl⟩, ⟨_, h2, rfl, rfl⟩⟩, fun c hcm => ?_, q⟩
      have e' : c = s1.heap.objs.size + 4 ∨ c = s1.heap.objs.size + 2 ∨ c = s1.heap.objs.size + 3 ∨ c = s1.heap.objs.size ∨ c = s1.heap.objs.size + 1 := by simpa using hcm
      have hle : s1.heap.objs.size ≤ c := by
        rcases e' with z | z | z | z | z
        · rw [z]; exact Nat.le_add_right _ _
        · rw [z]; exact Nat.le_add_right _ _
        · rw [z]; exact Nat.le_add_right _ _
        · rw [z]; exact Nat.le_refl _
        · rw [z]; exact Nat.le_add_right _ _
      exact I1.fpOk hle (I1.hok.fresh hle)
theorem walk_zipM {K : PySem.W.Frag} {a b : Addr} {xs ys : List V} (hn : xs.length = ys.length) : Walk (ItzM K a b) xs.length (fun H => SqL K H a xs ∧ SqT K H b ys) (YPair (fun i => xs[i]?) (fun i => ys[i]?)) := by
  refine ⟨fun i _ hi q => ?_, fun _ q => ⟨xs, ys, q.1, q.2, rfl, hn.symm⟩, fun i H v H' _ q y => ?_⟩
  · have h2 : i < ys.length := by omega
    exact ⟨xs, ys, xs[i], ys[i], q.1, q.2, by simp [hi], by simp [h2]⟩
  · obtain ⟨T, x, z, h1, h2, h3, h4, h5⟩ := y
    exact ⟨T, x, z, h1, h2, h3, h4 xs q.1, h5 ys q.2⟩
theorem walk_zipT {K : PySem.W.Frag} {a b : Addr} {xs ys : List V} (hn : xs.length = ys.length) : Walk (RZ.ItzT K a b) xs.length (fun H => SqT K H a xs ∧ SqT K H b ys) (YPair (fun i => xs[i]?) (fun i => ys[i]?)) := by
  refine ⟨fun i _ hi q => ?_, fun _ q => ⟨xs, ys, q.1, q.2, .inl (Nat.le_refl _)⟩, fun i H v H' _ q y => ?_⟩
  · have h2 : i < ys.length := by omega
    exact ⟨xs, ys, xs[i], ys[i], q.1, q.2, by simp [hi], by simp [h2]⟩
  · obtain ⟨T, x, z, h1, h2, h3, h4, h5⟩ := y
    exact ⟨T, x, z, h1, h2, h3, h4 xs q.1, h5 ys q.2⟩
end K94

set_option Elab.async false
set_option linter.all false
set_option maxRecDepth 100000
set_option maxHeartbeats 4000000
/-! L2: rules by values, walks by whole numbers, comprehensions. -/
namespace K94
open PySem PySem.Spec PyProof.Rows L2
/-! ### what an expression gives where the heap stays -/
def Ep (t : TE) (σ : L2.St) (H : Hp) (v : V) : Prop := ∀ Q : VK, Q v H → t σ H Q
def Et (t : TT) (σ : L2.St) (H : Hp) (b : Bool) : Prop := ∀ Q : Bool → Hp → Prop, Q b H → t σ H Q
section
variable {X : Cx} {K : PySem.W.Frag} {σ : L2.St} {H : Hp} {ta tb tc : TE} {tt : TT}
theorem ep_var {i : Nat} {v : V} (h : σ[i]? = some (some v)) : Ep (tVar i) σ H v := fun _ q => ⟨v, h, q⟩
theorem ep_c {v : V} : Ep (tC v) σ H v := fun _ q => q
theorem ep_i0 {g : Int → Int → V} {i j : Int} (a : Ep ta σ H (.int i)) (b : Ep tb σ H (.int j)) : Ep (tOp (rI0 g) ta tb) σ H (g i j) := fun _ q => a _ (b _ ⟨i, j, rfl, rfl, q⟩)
theorem ep_i {C : Int → Int → Prop} {g : Int → Int → V} {i j : Int} (a : Ep ta σ H (.int i)) (b : Ep tb σ H (.int j)) (c : C i j) : Ep (tOp (rI C g) ta tb) σ H (g i j) := fun _ q => a _ (b _ ⟨i, j, rfl, rfl, c, q⟩)
theorem ep_u {g : Int → V} {i : Int} (a : Ep ta σ H (.int i)) : Ep (tUn (rU g) ta) σ H (g i) := fun _ q => a _ ⟨i, rfl, q⟩
theorem ep_eq {v : V} {x y : V} (a : Ep ta σ H x) (b : Ep tb σ H y) (s : scal x y = true) : Ep (tOp rEq ta tb) σ H (.bl (decide (x = y))) := fun _ q => a _ (b _ ⟨s, q⟩)
theorem ep_ne {v : V} {x y : V} (a : Ep ta σ H x) (b : Ep tb σ H y) (s : scal x y = true) : Ep (tOp rNe ta tb) σ H (.bl (!decide (x = y))) := fun _ q => a _ (b _ ⟨s, q⟩)
theorem ep_of {v w : V} (a : Ep ta σ H v) (e : v = w) : Ep ta σ H w := e ▸ a
/-- number at a place of a row -/
def rRow (K : PySem.W.Frag) : R2 := fun x y H Q => ∃ (p : Addr) (r : Row) (k : Int) (i : Nat), x = .ref p ∧ y = .int k ∧ RowAt K H p r ∧ k = (i : Int) ∧ i < r.length ∧ Q (.int (rf r i)) H
theorem ix_row (K : PySem.W.Frag) (hK : X.K = K := by rfl) : IxR X (rRow K) := by
  subst hK
  intro vl sl pins s σ H x y v u Q I rx ry h hsub
  obtain ⟨p, r, k, i, h1, h2, h3, h4, h5, q⟩ := h
  exact ix_tup vl sl pins s σ H x y v u Q I rx ry ⟨p, _, k, _, h1, h2, h3, by rw [h4]; exact atI_int h5, q⟩ hsub
theorem ep_row {p : Addr} {r : Row} {k : Int} {i : Nat} (a : Ep ta σ H (.ref p)) (b : Ep tb σ H (.int k)) (h : RowAt K H p r) (e : k = (i : Int)) (l : i < r.length) : Ep (tOp (rRow K) ta tb) σ H (.int (rf r i)) := fun _ q => a _ (b _ ⟨p, r, k, i, rfl, rfl, h, e, l, q⟩)
/-- a place of a list of numbers -/
def LRow (K : PySem.W.Frag) (H : Hp) (p : Addr) (r : Row) : Prop := SqL K H p (r.map V.int)
def rLRow (K : PySem.W.Frag) : R2 := fun x y H Q => ∃ (p : Addr) (r : Row) (k : Int) (i : Nat), x = .ref p ∧ y = .int k ∧ LRow K H p r ∧ k = (i : Int) ∧ i < r.length ∧ Q (.int (rf r i)) H
theorem ix_lrow (K : PySem.W.Frag) (hK : X.K = K := by rfl) : IxR X (rLRow K) := by
  subst hK
  intro vl sl pins s σ H x y v u Q I rx ry h hsub
  obtain ⟨p, r, k, i, h1, h2, h3, h4, h5, q⟩ := h
  exact ix_list vl sl pins s σ H x y v u Q I rx ry ⟨p, _, k, _, h1, h2, h3, by rw [h4]; exact atI_int h5, q⟩ hsub
theorem ep_lrow {p : Addr} {r : Row} {k : Int} {i : Nat} (a : Ep ta σ H (.ref p)) (b : Ep tb σ H (.int k)) (h : LRow K H p r) (e : k = (i : Int)) (l : i < r.length) : Ep (tOp (rLRow K) ta tb) σ H (.int (rf r i)) := fun _ q => a _ (b _ ⟨p, r, k, i, rfl, rfl, h, e, l, q⟩)
/-- a place of a list, of a tuple -/
def rLk (K : PySem.W.Frag) : R2 := fun x y H Q => ∃ (p : Addr) (xs : List V) (k : Int) (i : Nat) (v : V), x = .ref p ∧ y = .int k ∧ SqL K H p xs ∧ k = (i : Int) ∧ xs[i]? = some v ∧ Q v H
theorem ix_l (K : PySem.W.Frag) (hK : X.K = K := by rfl) : IxR X (rLk K) := by
  subst hK
  intro vl sl pins s σ H x y v u Q I rx ry h hsub
  obtain ⟨p, r, k, i, z, h1, h2, h3, h4, h5, q⟩ := h
  exact ix_list vl sl pins s σ H x y v u Q I rx ry ⟨p, _, k, _, h1, h2, h3, by rw [h4]; exact atI_nat h5, q⟩ hsub
theorem ep_l {p : Addr} {xs : List V} {k : Int} {i : Nat} {v : V} (a : Ep ta σ H (.ref p)) (b : Ep tb σ H (.int k)) (h : SqL K H p xs) (e : k = (i : Int)) (l : xs[i]? = some v) : Ep (tOp (rLk K) ta tb) σ H v := fun _ q => a _ (b _ ⟨p, xs, k, i, v, rfl, rfl, h, e, l, q⟩)
def rTk (K : PySem.W.Frag) : R2 := fun x y H Q => ∃ (p : Addr) (xs : List V) (k : Int) (i : Nat) (v : V), x = .ref p ∧ y = .int k ∧ SqT K H p xs ∧ k = (i : Int) ∧ xs[i]? = some v ∧ Q v H
theorem ix_t (K : PySem.W.Frag) (hK : X.K = K := by rfl) : IxR X (rTk K) := by
  subst hK
  intro vl sl pins s σ H x y v u Q I rx ry h hsub
  obtain ⟨p, r, k, i, z, h1, h2, h3, h4, h5, q⟩ := h
  exact ix_tup vl sl pins s σ H x y v u Q I rx ry ⟨p, _, k, _, h1, h2, h3, by rw [h4]; exact atI_nat h5, q⟩ hsub
theorem ep_t {p : Addr} {xs : List V} {k : Int} {i : Nat} {v : V} (a : Ep ta σ H (.ref p)) (b : Ep tb σ H (.int k)) (h : SqT K H p xs) (e : k = (i : Int)) (l : xs[i]? = some v) : Ep (tOp (rTk K) ta tb) σ H v := fun _ q => a _ (b _ ⟨p, xs, k, i, v, rfl, rfl, h, e, l, q⟩)
/-- a field of an object -/
def rNum (f : Int → Int → Prop) (g : Int → Int → V) : R2 := rI f g
/-! ### great numbers -/
theorem op_mulB : OpR X (binaryOp .Mult) (rI IntMulOk fun i j => .int (i * j)) := opI fun _ _ _ _ _ _ _ hc q => mul_int q hc
def DivOk (_ j : Int) : Prop := j ≠ 0 ∧ j.natAbs < 2 ^ 9000
theorem op_fdivB : OpR X (binaryOp .FloorDiv) (rI DivOk fun i j => .int (i.fdiv j)) := opI fun _ j _ _ _ _ _ hc q =>
  floordiv_int hc.1 q (.inl (PyProof.noPylong_of_log2 (PySem.Flt.log2_lt_of (by decide) hc.2)))
theorem mulOk_bits {i j : Int} {a b : Nat} (ha : i.natAbs < 2 ^ a) (hb : j.natAbs < 2 ^ b) (h : a + b ≤ 100000000) : IntMulOk i j := by
  have e : bitsLine = 134217728 := by decide
  have bd : ∀ (x : Int) (c : Nat), x.natAbs < 2 ^ c → Builtin.Int.intBits x ≤ c + 1 := fun x c hx => by
    unfold Builtin.Int.intBits
    split
    · omega
    · have := PySem.Flt.log2_lt_of (k := c + 1) (by omega) (Nat.lt_of_lt_of_le hx (Nat.pow_le_pow_right (by decide) (by omega)))
      omega
  have h1 := bd i a ha
  have h2 := bd j b hb
  unfold IntMulOk
  intro z
  rw [Bool.and_eq_true] at z
  have z2 := z.2
  unfold Builtin.Int.intTooBig at z2
  have z3 := of_decide_eq_true z2
  rw [e] at z3
  omega
theorem mulOk_small {i j : Int} (ha : i.natAbs < 2 ^ 64) (hb : j.natAbs < 2 ^ 64) : IntMulOk i j := mulOk_bits ha hb (by decide)
/-! ### len -/
def rLenN (K : PySem.W.Frag) : List V → Hp → VK → Prop := fun xs H Q => ∃ (p : Addr) (ys : List V) (n : Nat), xs = [.ref p] ∧ (SqL K H p ys ∨ SqT K H p ys) ∧ ys.length = n ∧ Q (.int (n : Int)) H
theorem call_lenN (K : PySem.W.Frag) (hK : X.K = K := by rfl) : CallR X (.builtin "len") (rLenN K) := by
  subst hK
  intro pins s σ H xs us Q I r h
  obtain ⟨p, ys, n, h1, h2, rfl, q⟩ := h
  exact call_len_seq pins s σ H xs us Q I r ⟨p, ys, h1, h2, q⟩
end
/-! ### whole numbers in order -/
def ItN (lo n : Nat) : It := ⟨fun i _ => i < n, fun i H x H' => H' = H ∧ x = .int ((lo + i : Nat) : Int), fun i _ => n ≤ i⟩
theorem itN_eq (lo n : Nat) : Itr (lo : Int) n = ItN lo n := by
  unfold Itr ItN
  congr 1
theorem walk_N {lo n : Nat} : Walk (ItN lo n) n (fun _ => True) (YFn fun i => .int ((lo + i : Nat) : Int)) := ⟨fun _ _ hi _ => hi, fun _ _ => Nat.le_refl _, fun _ _ _ _ _ _ y => y⟩
section
variable {X : Cx} {tg : Expr}
theorem walk_N0 {n : Nat} : Walk (ItN 0 n) n (fun _ => True) (fun i H x H' => H' = H ∧ x = .int (i : Int)) :=
  ⟨fun _ _ hi _ => hi, fun _ _ => Nat.le_refl _, fun i H x H' _ _ y => ⟨y.1, by rw [y.2, Nat.zero_add]⟩⟩
def tClo (ta : TA) : TA := fun σ H Q => ∃ Q0 : List V → Hp → Prop, ta σ H Q0 ∧ ∀ vs H1, Q0 vs H1 → Q vs H1
theorem pa_clo {es : List Expr} {ta : TA} (ha : PA X es ta) : PA X es (tClo ta) :=
  ⟨fun pos pins s σ H Q I ⟨Q0, h, q⟩ => thn (ha.run pos pins s σ H Q0 I h) fun us s1 ⟨vs, H1, I1, r1, q1⟩ => ⟨vs, H1, I1, r1, q vs H1 q1⟩⟩
def iRgN (ta : TA) : TI := fun σ H R => ta σ H fun vs H1 => ∃ (k : Int) (n : Nat), vs = [.int k] ∧ k = (n : Int) ∧ n ≤ 1000000 ∧ R (ItN 0 n) H1
theorem pi_rgN {a : Expr} {ta : TA} {p pos : Pos} (hg : Gl X "range") (hm : X.mg "range" = none) (ha : PA X [a] ta) (hs : starEach [a] X.env = [(false, eval a X.env)] := by rfl) : PI X tg (.Call (.Name "range" p) [a] [] pos) (iRgN ta) :=
  ⟨fun pins s σ H R I h => (pi_range1 hg hm (pa_clo ha) hs).run pins s σ H R I ⟨_, h, fun vs H1 ⟨k, n, h1, h2, h3, h4⟩ => ⟨k, h1, by omega, by omega, by
    subst h2
    have e := itN_eq 0 n
    rw [Int.toNat_natCast]
    exact e ▸ h4⟩⟩⟩
def iRgN2 (ta : TA) : TI := fun σ H R => ta σ H fun vs H1 => ∃ (j k : Int) (lo hi : Nat), vs = [.int j, .int k] ∧ j = (lo : Int) ∧ k = (hi : Int) ∧ lo ≤ 1000000 ∧ hi ≤ 1000000 ∧ R (ItN lo (hi - lo)) H1
theorem pi_rgN2 {a b : Expr} {ta : TA} {p pos : Pos} (hg : Gl X "range") (hm : X.mg "range" = none) (ha : PA X [a, b] ta)
    (hs : starEach [a, b] X.env = [(false, eval a X.env), (false, eval b X.env)] := by rfl) (hs2 : starEach [b] X.env = [(false, eval b X.env)] := by rfl) : PI X tg (.Call (.Name "range" p) [a, b] [] pos) (iRgN2 ta) :=
  ⟨fun pins s σ H R I h => (pi_range2 hg hm (pa_clo ha) hs hs2).run pins s σ H R I ⟨_, h, fun vs H1 ⟨j, k, lo, hi, h1, h2, h3, h4, h5, h6⟩ => ⟨j, k, h1, by omega, by
    subst h2 h3
    have e := itN_eq lo (hi - lo)
    have z : ((hi : Int) - (lo : Int)).toNat = hi - lo := by omega
    rw [z]
    exact e ▸ h6⟩⟩⟩
end
/-! ### comprehensions -/
section
variable {T : TabL} {J : It} {n : Nat} {G : Hp → Prop} {Y : Nat → Hp → V → Hp → Prop}
/-- a comprehension by the values it has so far -/
theorem lc_go (w : Walk J n G Y) {g : TG} {tt : TT} {te : TE} {vs : List Nat} {σ : L2.St} {H1 : Hp} {D : Addr} {Qd : Hp → Prop} (hD : H1 D = none) (hn : n ≤ 1000000) (P : Nat → List V → Hp → Prop) (h0 : P 0 [] (upd H1 D (.lst [])))
    (hG : ∀ H', Ex T H1 H' → G H')
    (hs : ∀ i x acc H H', i < n → H D = some (.lst acc) → acc.length ≤ i → Ex T H1 H → P i acc H → Y i H x H' → ∀ (K1 : VK) (K0 : Hp → Prop),
      (∀ y H4, Ex T H H4 → P (i + 1) (acc ++ [y]) (upd H4 D (.lst (acc ++ [y]))) → K1 y H4) → (∀ H4, Ex T H H4 → P (i + 1) acc H4 → K0 H4) →
      g x (wipe σ vs) H' fun σ2 H2 => wipe σ2 vs = wipe σ vs ∧ tt σ2 H2 fun b H3 => if b = true then te σ2 H3 K1 else K0 H3)
    (hd : ∀ acc H, H D = some (.lst acc) → Ex T H1 H → acc.length ≤ n → P n acc H → Qd H) :
    ∃ W : Nat → Nat → Hp → Prop, (∃ m, W 0 m (upd H1 D (.lst []))) ∧ ∀ i m H, W i m H →
      (J.stop i H ∧ Qd H) ∨ (J.go i H ∧ ∃ Nx : Hp → Prop, (∀ H', Nx H' → ∃ m', m' < m ∧ W (i + 1) m' H') ∧ ∀ x H', J.yld i H x H' → g x (wipe σ vs) H' fun σ2 H2 => wipe σ2 vs = wipe σ vs ∧ tt σ2 H2 fun b H3 =>
        if b = true then te σ2 H3 fun y H4 => ∃ acc, H4 D = some (.lst acc) ∧ acc.length < sizeLine ∧ Nx (upd H4 D (.lst (acc ++ [y]))) else Nx H3) := by
  have line : 1000000 < sizeLine := by decide
  exact lc_it w (fun i H => ∃ acc, H D = some (.lst acc) ∧ Ex T H1 H ∧ acc.length ≤ i ∧ P i acc H) ⟨[], upd_same, .new hD, Nat.le_refl _, h0⟩ (fun i H _ ⟨acc, _, e, _⟩ => hG H e)
    (fun i x H H' hi ⟨acc, hl, e, hl2, p⟩ y => hs i x acc H H' hi hl hl2 e p y _ _
      (fun y H4 e4 p4 => ⟨acc, e4.lst hl, by omega, acc ++ [y], upd_same, (e.trans e4).mut hD (e4.lst hl) (plain_lst _), by simp; omega, p4⟩)
      fun H4 e4 p4 => ⟨acc, e4.lst hl, e.trans e4, by omega, p4⟩)
    fun H ⟨acc, hl, e, hl2, p⟩ => hd acc H hl e hl2 p
/-- a comprehension without tests whose items are told by the turn -/
theorem lc_fn (w : Walk J n G Y) {g : TG} {te : TE} {vs : List Nat} {σ : L2.St} {H1 : Hp} {D : Addr} {Qd : Hp → Prop} (hD : H1 D = none) (hn : n ≤ 1000000) (v : Nat → V)
    (hG : ∀ H', Ex T H1 H' → G H')
    (hs : ∀ i x H H', i < n → Ex T H1 H → Y i H x H' → ∀ K1 : VK, (∀ H4, Ex T H H4 → K1 (v i) H4) → g x (wipe σ vs) H' fun σ2 H2 => wipe σ2 vs = wipe σ vs ∧ te σ2 H2 K1)
    (mono : ∀ x σ2 H2 (Q Q' : L2.St → Hp → Prop), (∀ σ H, Q σ H → Q' σ H) → g x σ2 H2 Q → g x σ2 H2 Q')
    (hd : ∀ H, H D = some (.lst ((List.range n).map v)) → Ex T H1 H → Qd H) :
    ∃ W : Nat → Nat → Hp → Prop, (∃ m, W 0 m (upd H1 D (.lst []))) ∧ ∀ i m H, W i m H →
      (J.stop i H ∧ Qd H) ∨ (J.go i H ∧ ∃ Nx : Hp → Prop, (∀ H', Nx H' → ∃ m', m' < m ∧ W (i + 1) m' H') ∧ ∀ x H', J.yld i H x H' → g x (wipe σ vs) H' fun σ2 H2 => wipe σ2 vs = wipe σ vs ∧ tYes σ2 H2 fun b H3 =>
        if b = true then te σ2 H3 fun y H4 => ∃ acc, H4 D = some (.lst acc) ∧ acc.length < sizeLine ∧ Nx (upd H4 D (.lst (acc ++ [y]))) else Nx H3) :=
  lc_go w hD hn (fun i acc _ => acc = (List.range i).map v) rfl hG
    (fun i x acc H H' hi _ _ e p y K1 K0 h1 _ => mono _ _ _ _ _ (fun σ2 H2 ⟨q1, q2⟩ => ⟨q1, iteT (B := K0 H2) q2⟩) (hs i x H H' hi e y K1 fun H4 e4 => h1 _ _ e4 (by subst p; rw [List.range_succ, List.map_append]; rfl)))
    fun acc H hl e _ p => hd H (p ▸ hl) e
theorem gmono_name {i : Nat} : ∀ x (σ2 : L2.St) H2 (Q Q' : L2.St → Hp → Prop), (∀ σ H, Q σ H → Q' σ H) → gName i x σ2 H2 Q → gName i x σ2 H2 Q' := fun _ _ _ _ _ h q => h _ _ q
theorem gmono_two {K : PySem.W.Frag} {i j n : Nat} : ∀ x (σ2 : L2.St) H2 (Q Q' : L2.St → Hp → Prop), (∀ σ H, Q σ H → Q' σ H) → gTup K n (gCons (gName i) (gCons (gName j) gNil)) x σ2 H2 Q → gTup K n (gCons (gName i) (gCons (gName j) gNil)) x σ2 H2 Q' :=
  fun _ _ _ _ _ h ⟨a, xs, h1, h2, h3, v, r, h4, v2, r2, h5, h6, q⟩ => ⟨a, xs, h1, h2, h3, v, r, h4, v2, r2, h5, h6, h _ _ q⟩
end
/-- a pair that a walk gives, taken apart into two places -/
theorem pair_g {K : PySem.W.Frag} {i j : Nat} {H : Hp} {T : Addr} {x y : V} {σ : L2.St} {Q : L2.St → Hp → Prop} (h : SqT K H T [x, y]) (q : Q ((σ.set i (some x)).set j (some y)) H) : gTup K 2 (gCons (gName i) (gCons (gName j) gNil)) (.ref T) σ H Q :=
  ⟨T, _, rfl, h, rfl, x, [y], rfl, y, [], rfl, rfl, q⟩
theorem sqT_ty {K : PySem.W.Frag} {H : Hp} {a : Addr} {xs : List V} (h : SqT K H a xs) : TyX K H (.ref a) (.type "tuple") := by
  rcases h with (h | ⟨o, h⟩) | ⟨o, its, n, h1, h2, _⟩
  · exact .base (.tup h)
  · exact .fTuple h
  · exact .kTuple h1 h2
/-! ### a written dict's get -/
def tKGet (K : PySem.W.Frag) (w : World) (td ty tx : TE) : TE := fun σ H Q => td σ H fun x H1 => ∃ a, x = .ref a ∧ (∃ z v, KDct K w a z v) ∧ (a == sysModules) = false ∧ ty σ H1 fun y H2 => tx σ H2 fun z H3 => ∃ x v, y = .str x ∧ KDct K w a x v ∧ Q v H3
theorem pe_kget {X : Cx} {o e f : Expr} {apos cpos : Pos} {td ty tx : TE} (ho : PE X o td) (he : PE X e ty) (hf : PE X f tx) (m : M2 X o "get" apos e f cpos) : PE X (.Call (.Attribute o "get" apos) [e, f] [] cpos) (tKGet X.K X.w td ty tx) := by
  refine ⟨fun pins s σ H Q I h => ?_⟩
  refine wpAny_Call_method m.base m.few m.line PySem.F.plainAttrs_dict PySem.F.slot_dict_get PySem.F.type_dict_get (thn (ho.run pins s σ H _ I h) fun u s1 ⟨x, H1, I1, rx, a, ex, ⟨z0, v0, es, n, u0, hl, hk, _⟩, hd, q1⟩ => ?_)
  subst ex
  obtain rfl : u = Value.ref a := rx
  have hm := PySem.W.mapOf_K (prog := X.prog) (w := X.w) I1.kIn hl hk
  refine ⟨hm.typeIs, fun b q => ?_, ?_⟩
  · cases q
    exact ⟨_, I1.kIn _ _ hl, rfl⟩
  rw [m.trees]
  refine Calls.callWith_builtin rfl (Calls.evalArgs_plain (Calls.spliced_cons (thn (he.run pins s1 σ H1 _ I1 q1) fun iv s2 ⟨y, H2, I2, ry, q2⟩ =>
    Calls.spliced_cons (thn (hf.run pins s2 σ H2 _ I2 q2) fun fv s3 ⟨z, H3, I3, rz, x, v, ey, ⟨es', n', u', hl', hk', hn', ru'⟩, q3⟩ => Calls.spliced_nil ?_))))
  subst ey
  obtain ⟨t, rfl⟩ := (show ∃ t, iv = Value.str x t from ry)
  have hm3 := PySem.W.mapOf_K (prog := X.prog) (w := X.w) I3.kIn hl' hk'
  refine call_meetsIn PySem.F.slot_dict_get hm3.typeIs PySem.F.entry_dict_get (PySem.F.args_dict_get_3 _ _ _) (meets_dict_get_default (PySem.strKind X.prog X.w) a (PySem.strKind_is X.prog X.w x t) hd fv) ⟨_, hm3, v, H3, I3.tok _, ?_, q3⟩
  rw [PySem.W.find_K hl' hn']
  exact ru'
/-! ### the written part said -/
section
variable {X : Cx} (K : PySem.W.Frag) (hK : X.K = K := by rfl)
include hK
def rIs1 (K : PySem.W.Frag) : List V → Hp → VK → Prop := fun xs H Q => ∃ (x : V) (t n : String) (b : Bool), xs = [x, .ty n] ∧ TyX K H x (.type t) ∧ kitB t n = some b ∧ Q (.bl b) H
theorem call_is1 : CallR X (.builtin "isinstance") (rIs1 K) := by
  subst hK
  intro pins s σ H xs us Q I r h
  obtain ⟨x, t, n, b, h1, h2, h3, q⟩ := h
  exact call_isi pins s σ H xs us Q I r ⟨x, .ty n, _, .type n, b, h1, .ty n, h2, kit_ty h3, q⟩
def rTupOf (K : PySem.W.Frag) : List V → Hp → VK → Prop := fun xs H Q => ∃ p ys, xs = [.ref p] ∧ ((SqL K H p ys ∧ ∀ l, H l = none → Q (.ref l) (upd H l (.tup ys))) ∨ (SqT K H p ys ∧ Q (.ref p) H))
theorem call_tupK : CallR X (.type "tuple") (rTupOf K) := by subst hK; exact call_tuple_of
def rLstOf (K : PySem.W.Frag) : List V → Hp → VK → Prop := fun xs H Q => ∃ p ys, xs = [.ref p] ∧ (SqL K H p ys ∨ SqT K H p ys) ∧ ∀ l, H l = none → Q (.ref l) (upd H l (.lst ys))
theorem call_lstK : CallR X (.type "list") (rLstOf K) := by subst hK; exact call_list_of
theorem sl_lK : SlR X (rSlL K) := by subst hK; exact sl_list
theorem sl_tK : SlR X (rSlA K) := by subst hK; exact sl_tupA
theorem op_catK : OpR X (binaryOp .Add) (rCatA K) := by subst hK; exact op_catA
theorem pi_lK {tg l : Expr} {tl : TE} (hl : PE X l tl) : PI X tg l (iList K tl) := by subst hK; exact pi_list hl
theorem pi_tK {tg l : Expr} {tl : TE} (hl : PE X l tl) : PI X tg l (iTup K tl) := by subst hK; exact pi_tup hl
theorem pg_tK {es : List Expr} {k : Nat} {t : TGs} {n : Nat} {pos : Pos} (h : PGs X es t) (hc : X.calm = true := by rfl)
    (hn : (assignEach es X.env).length = n := by rfl) (hst : (assignEach es X.env).findIdx? (·.1) = none := by rfl) : PG X (.Tuple es k pos) (gTup K n t) := by subst hK; exact pg_tup hc h hn hst
theorem pe_fldK {e : Expr} {te : TE} {f : Str} {pos : Pos} (he : PE X e te) (hb : attributeBase e f X.env (eval e X.env) = eval e X.env := by rfl) : PE X (.Attribute e f pos) (tFld K te f) := by subst hK; exact pe_fld he hb
theorem pi_eK {e : Expr} {ta : TA} {p pos tpos : Pos} {elts : List Expr} {kk : Nat} (hg : Gl X "enumerate") (hm : X.mg "enumerate" = none) (ha : PA X [e] ta) (hs : starEach [e] X.env = [(false, eval e X.env)] := by rfl) :
    PI X (.Tuple elts kk tpos) (.Call (.Name "enumerate" p) [e] [] pos) (iEnumT K ta) := by subst hK; exact pi_enumT hg hm ha hs
theorem pi_zK {e e2 : Expr} {ta : TA} {p pos tpos : Pos} {elts : List Expr} {kk : Nat} (hg : Gl X "zip") (hm : X.mg "zip" = none) (ha : PA X [e, e2] ta)
    (hs : starEach [e, e2] X.env = (false, eval e X.env) :: starEach [e2] X.env := by rfl) (hpl : (backTo pos (starEach [e2] X.env)).any (·.1) = false := by rfl) :
    PI X (.Tuple elts kk tpos) (.Call (.Name "zip" p) [e, e2] [] pos) (RZ.iZipA K ta) := by subst hK; exact RZ.pi_zipA hg hm ha hs hpl
theorem pi_zmK {e e2 : Expr} {ta : TA} {p pos tpos : Pos} {elts : List Expr} {kk : Nat} (hg : Gl X "zip") (hm : X.mg "zip" = none) (ha : PA X [e, e2] ta)
    (hs : starEach [e, e2] X.env = (false, eval e X.env) :: starEach [e2] X.env := by rfl) (hpl : (backTo pos (starEach [e2] X.env)).any (·.1) = false := by rfl) :
    PI X (.Tuple elts kk tpos) (.Call (.Name "zip" p) [e, e2] [] pos) (iZipM K ta) := by subst hK; exact pi_zipM hg hm ha hs hpl
end
/-! ### slices -/
theorem cut_take (xs : List V) (n : Nat) : cutV xs none (some (n : Int)) = xs.take n := by
  unfold cutV
  rw [HT.sIx_none, HT.sIx_nat]
  simp [List.take_eq_take_iff]
theorem cut_drop (xs : List V) (n : Nat) : cutV xs (some (n : Int)) none = xs.drop n := by
  unfold cutV
  rw [HT.sIx_none, HT.sIx_nat]
  by_cases h : n ≤ xs.length
  · rw [Nat.min_eq_left h]
    exact List.take_of_length_le (by simp)
  · have h2 : xs.length ≤ n := by omega
    rw [Nat.min_eq_right h2, List.drop_of_length_le (Nat.le_refl _), List.drop_of_length_le h2]
    simp

/-! ### tuples stand where a list changes -/
section
variable {T : TabL} {K : PySem.W.Frag} {H : Hp} {a D : Addr} {xs l : List V} {o : HO}
theorem sqT_upd (h : SqT K H a xs) (hD : H D = some (.lst l)) : SqT K (upd H D o) a xs := by
  rcases h with (h | ⟨q, h⟩) | h
  · exact .inl (.inl (by rw [upd_ne (ne_of h hD (by simp))]; exact h))
  · exact .inl (.inr ⟨q, by rw [upd_ne (ne_of h hD (by simp))]; exact h⟩)
  · exact .inr h
theorem row_upd {r : Row} (h : RowAt K H a r) (hD : H D = some (.lst l)) : RowAt K (upd H D o) a r := sqT_upd h hD
theorem rows_upd {as : List Addr} {R : List Row} (h : All2 (RowAt K H) as R) (hD : H D = some (.lst l)) : All2 (RowAt K (upd H D o)) as R := h.imp fun _ _ h => row_upd h hD
theorem sqL_upd (h : SqL K H a xs) (hD : H D = some (.lst l)) (n : a ≠ D) : SqL K (upd H D o) a xs := by
  rcases h with (h | ⟨q, h⟩) | h
  · exact .inl (.inl (by rw [upd_ne n]; exact h))
  · exact .inl (.inr ⟨q, by rw [upd_ne n]; exact h⟩)
  · exact .inr h
theorem All2.map_range {α β : Type} {Q : α → β → Prop} {f : Nat → β} {as : List α} {i : Nat} {a : α} (h : All2 Q as ((List.range i).map f)) (q : Q a (f i)) : All2 Q (as ++ [a]) ((List.range (i + 1)).map f) := by
  rw [List.range_succ, List.map_append]
  exact h.snoc q
end
section
variable {T : TabL} {J : It} {n : Nat} {G : Hp → Prop} {Y : Nat → Hp → V → Hp → Prop} {β : Type} {A : Hp → Addr → β → Prop}
/-- a comprehension without tests whose items are objects told by the turn -/
theorem lc_obj (w : Walk J n G Y) {g : TG} {te : TE} {vs : List Nat} {σ : L2.St} {H1 : Hp} {D : Addr} {Qd : Hp → Prop} (hD : H1 D = none) (hn : n ≤ 1000000) (f : Nat → β)
    (st : ∀ H H' p b, A H p b → Ex T H H' → A H' p b) (st2 : ∀ H p b l l', A H p b → H D = some (.lst l) → A (upd H D (.lst l')) p b)
    (hG : ∀ H', Ex T H1 H' → G H')
    (hs : ∀ i x H H', i < n → Ex T H1 H → Y i H x H' → ∀ K1 : VK, (∀ p H4, Ex T H H4 → A H4 p (f i) → K1 (.ref p) H4) → g x (wipe σ vs) H' fun σ2 H2 => wipe σ2 vs = wipe σ vs ∧ te σ2 H2 K1)
    (mono : ∀ x σ2 H2 (Q Q' : L2.St → Hp → Prop), (∀ σ H, Q σ H → Q' σ H) → g x σ2 H2 Q → g x σ2 H2 Q')
    (hd : ∀ as H, H D = some (.lst (as.map V.ref)) → All2 (A H) as ((List.range n).map f) → Ex T H1 H → Qd H) :
    ∃ W : Nat → Nat → Hp → Prop, (∃ m, W 0 m (upd H1 D (.lst []))) ∧ ∀ i m H, W i m H →
      (J.stop i H ∧ Qd H) ∨ (J.go i H ∧ ∃ Nx : Hp → Prop, (∀ H', Nx H' → ∃ m', m' < m ∧ W (i + 1) m' H') ∧ ∀ x H', J.yld i H x H' → g x (wipe σ vs) H' fun σ2 H2 => wipe σ2 vs = wipe σ vs ∧ tYes σ2 H2 fun b H3 =>
        if b = true then te σ2 H3 fun y H4 => ∃ acc, H4 D = some (.lst acc) ∧ acc.length < sizeLine ∧ Nx (upd H4 D (.lst (acc ++ [y]))) else Nx H3) :=
  lc_go w hD hn (fun i acc H => ∃ as : List Addr, acc = as.map V.ref ∧ All2 (A H) as ((List.range i).map f)) ⟨[], rfl, .nil⟩ hG
    (fun i x acc H H' hi hl _ e ⟨as, p, al⟩ y K1 K0 h1 _ => mono _ _ _ _ _ (fun σ2 H2 ⟨q1, q2⟩ => ⟨q1, iteT (B := K0 H2) q2⟩) (hs i x H H' hi e y K1 fun q H4 e4 a4 =>
      h1 _ _ e4 ⟨as ++ [q], by rw [p, List.map_append]; rfl, ((al.imp fun _ _ h => st _ _ _ _ h e4).map_range a4).imp fun _ _ h => st2 _ _ _ _ _ h (e4.lst hl)⟩))
    fun acc H hl e _ ⟨as, p, al⟩ => hd as H (p ▸ hl) al e
end
end K94

set_option Elab.async false
set_option linter.all false
set_option maxRecDepth 100000
set_option maxHeartbeats 4000000
namespace K94
open PySem PySem.Spec PyProof.Rows L2
section
variable {P : Program} {w : World} {K : PySem.W.Frag} {mg : Str → Option Value} {base : Heap} {T : TabL}
theorem vne {i j : Int} : (!decide (V.int i = V.int j)) = decide (i ≠ j) := by
  by_cases h : i = j
  · subst h; simp
  · simp [h]
theorem veq {i j : Int} : decide (V.int i = V.int j) = decide (i = j) := by
  by_cases h : i = j
  · subst h; simp
  · simp [h]
/-- a def gives a row -/
def GiveR (T : TabL) (K : PySem.W.Frag) (H : Hp) (Q : VK) (r : Row) : Prop := ∀ H' p, Ex T H H' → RowAt K H' p r → Q (.ref p) H'
/-! ### leads -/
def spLead (K : PySem.W.Frag) : Sp := fun vs H Q _ => ∃ (a : Addr) (r : Row), vs = [.ref a] ∧ RowAt K H a r ∧ r.length ≤ 1000 ∧ Q (.int (leadN r : Int)) H
theorem sc_Llead : FnScope ["_law_row", "_law_j"] ["_law_row"] (defScope s_Llead) := ⟨rfl, rfl, rfl, by decide +kernel, rfl, by decide +kernel, by decide +kernel⟩
theorem ok_Llead (F : Def K mg "_law_lead" s_Llead) (B : Bi mg)  : C8.Cal P w K mg base 1 "_law_lead" (spLead K) [] := by
  refine F.cal sc_Llead (fun vs H Q E h => ?_) (fun _ _ _ _ _ _ us hl => match us, hl with | [_], _ => rfl) (fun f cdv A outer s H vs Q E hr h => ?_)
  · obtain ⟨a, r, rfl, _⟩ := h
    rfl
  obtain ⟨a, r, rfl, hrow, hlen, k⟩ := h
  refine ⟨_,
  (pss_cons (ps_for PassesOwn.never rfl (pi_rgN rfl B.range (pa_cons (pe_callB (call_lenN K) (by rfl) B.len PySem.boot_len (pa_cons (pv 0) pa_nil)) pa_nil)) (pg_name (i := 1) sc_Llead.nd rfl (by first | exact Or.inl rfl | exact Or.inr rfl))
    (pss_one (ps_if (pt_cmpR op_ne (pe_ix (ix_row K) (pv 0) (pv 1) (fun _ _ => rfl)) pe_int (nomark _))
      (pss_one (ps_ret (pv 1)))
      pss_nil)))
  (pss_one (ps_ret (pe_callB (call_lenN K) (by rfl) B.len PySem.boot_len (pa_cons (pv 0) pa_nil))))), ?_⟩
  have hle := leadN_le r
  refine ⟨_, rfl, a, _, _, rfl, .inr hrow, List.length_map .., _, _, rfl, rfl, by omega, for_it walk_N0 (fun i σ H' => H' = H ∧ (∃ v, σ = [some (.ref a), v]) ∧ i ≤ leadN r) ⟨rfl, ⟨_, rfl⟩, Nat.zero_le _⟩ (fun _ _ _ _ _ => trivial) ?_ ?_⟩
  · rintro i x σ H0 H' hi ⟨rfl, ⟨v, rfl⟩, hl⟩ ⟨rfl, rfl⟩
    refine ⟨_, rfl, _, rfl, a, r, _, i, rfl, rfl, hrow, rfl, hi, rfl, _, rfl, ?_⟩
    rw [vne]
    refine ite2 (fun h => ⟨_, rfl, ?_⟩) fun h => ⟨rfl, ⟨_, rfl⟩, ?_⟩
    · have hn : rf r i ≠ 0 := by simpa using h
      have : leadN r = i := by
        by_cases e : leadN r = i
        · exact e
        · exact absurd (leadN_before r i (by omega)) hn
      rw [← this]; exact k
    · have hz : rf r i = 0 := by simpa using h
      by_cases e : leadN r = i
      · exact absurd (by rw [e]; exact hz) (leadN_ne r (by omega))
      · omega
  · rintro σ H' ⟨rfl, ⟨v, rfl⟩, hl⟩
    have : leadN r = r.length := by omega
    exact ⟨_, rfl, a, _, _, rfl, .inr hrow, List.length_map .., by rw [this] at k; exact k⟩
/-- the lead's column, or None -/
def leadV (r : Row) : V := if leadN r < r.length then .int (leadN r : Int) else .non
def spLeadO (T : TabL) (K : PySem.W.Frag) : Sp := fun vs H Q _ => ∃ (a : Addr) (r : Row), vs = [.ref a] ∧ RowAt K H a r ∧ r.length ≤ 1000 ∧ ∀ H', Ex T H H' → Q (leadV r) H'
theorem sc_lead_in : FnScope ["row", "column", "number"] ["row"] (defScope s_lead_in) := ⟨rfl, rfl, rfl, by decide +kernel, rfl, by decide +kernel, by decide +kernel⟩
theorem ok_lead_in (F : Def K mg "lead_in" s_lead_in) (B : Bi mg)  : C8.Cal P w K mg base 1 "lead_in" (spLeadO T K) [] := by
  refine F.cal sc_lead_in (fun vs H Q E h => ?_) (fun _ _ _ _ _ _ us hl => match us, hl with | [_], _ => rfl) (fun f cdv A outer s H vs Q E hr h => ?_)
  · obtain ⟨a, r, rfl, _⟩ := h
    rfl
  obtain ⟨a, r, rfl, hrow, hlen, k⟩ := h
  refine ⟨_,
  (pss_cons (ps_for PassesOwn.never rfl (pi_eK K rfl (by rfl) B.enumerate (pa_cons (pv 0) pa_nil)) (pg_tK K rfl (n := 2) (pgs_cons (pg_name (i := 1) sc_lead_in.nd rfl (by first | exact Or.inl rfl | exact Or.inr rfl)) (pgs_cons (pg_name (i := 2) sc_lead_in.nd rfl (by first | exact Or.inl rfl | exact Or.inr rfl)) pgs_nil)))
    (pss_one (ps_if (pt_cmpR op_ne (pv 2) pe_int (nomark _))
      (pss_one (ps_ret (pv 1)))
      pss_nil)))
  (pss_one (ps_ret pe_non))), ?_⟩
  have hle := leadN_le r
  refine ⟨_, rfl, a, _, rfl, hrow, for_it walk_enumT (fun i σ H' => Ex T H H' ∧ (∃ v u, σ = [some (.ref a), v, u]) ∧ i ≤ leadN r) ⟨.refl H, ⟨_, _, rfl⟩, Nat.zero_le _⟩ (fun i σ H' _ h => h.1.sqT hrow) ?_ ?_⟩
  · rintro i x σ H0 H' hi ⟨hx, ⟨v, u, rfl⟩, hl⟩ ⟨z, c, y, rfl, hz, rfl, h1, h2⟩
    cases h1
    obtain ⟨n, hn, rfl⟩ := map_get h2
    have hn' := rf_at hn
    have hi' : i < r.length := by simpa using hi
    refine pair_g (sqT_of upd_same) ?_
    refine ⟨_, rfl, rfl, _, rfl, ?_⟩
    rw [vne]
    refine ite2 (fun h => ⟨_, rfl, ?_⟩) fun h => ⟨hx.trans (.new hz), ⟨_, _, rfl⟩, ?_⟩
    · have hn : rf r i ≠ 0 := by rw [hn']; simpa using h
      have e : leadN r = i := by
        by_cases e : leadN r = i
        · exact e
        · exact absurd (leadN_before r i (by omega)) hn
      have := k _ (hx.trans (.new hz (o := .tup [.int (i : Nat), .int n])))
      unfold leadV at this
      rw [e, if_pos hi'] at this
      exact this
    · have hz : rf r i = 0 := by rw [hn']; simpa using h
      by_cases e : leadN r = i
      · exact absurd (by rw [e]; exact hz) (leadN_ne r (by omega))
      · omega
  · rintro σ H' ⟨hx, ⟨v, u, rfl⟩, hl⟩
    have e : leadN r = r.length := by
      have : (r.map V.int).length ≤ leadN r := hl
      rw [List.length_map] at this
      omega
    have := k _ hx
    unfold leadV at this
    rw [if_neg (by omega)] at this
    exact this
/-! ### sums of rows -/
def spAdded (T : TabL) (K : PySem.W.Frag) : Sp := fun vs H Q _ => ∃ (a b : Addr) (k : Int) (r q : Row), vs = [.ref a, .ref b, .int k] ∧ RowAt K H a r ∧ RowAt K H b q ∧ r.length = q.length ∧ r.length ≤ 1000 ∧
  (∀ j, j < r.length → IntMulOk k (rf q j)) ∧ GiveR T K H Q (addk r q k)
theorem addk_range {r q : Row} (k : Int) (h : r.length = q.length) : (List.range r.length).map (fun i => V.int (rf r i + k * rf q i)) = (addk r q k).map V.int := by
  have : addk r q k = (List.range r.length).map fun i => rf r i + k * rf q i := by
    refine List.ext_getElem? fun i => ?_
    by_cases hi : i < r.length
    · rw [rf_get (by rw [addk_len k h]; exact hi), rf_addk k h, List.getElem?_map, List.getElem?_range hi]; rfl
    · rw [List.getElem?_eq_none (by rw [addk_len k h]; omega), List.getElem?_eq_none (by simp; omega)]
  rw [this, List.map_map]
  rfl
theorem sc_Ladded : FnScope ["_law_one", "_law_other", "_law_k", "_law_j"] ["_law_one", "_law_other", "_law_k"] (defScope s_Ladded) := ⟨rfl, rfl, rfl, by decide +kernel, rfl, by decide +kernel, by decide +kernel⟩
theorem ok_Ladded (F : Def K mg "_law_added" s_Ladded) (B : Bi mg)  : C8.Cal P w K mg base 1 "_law_added" (spAdded T K) [] := by
  refine F.cal sc_Ladded (fun vs H Q E h => ?_) (fun _ _ _ _ _ _ us hl => match us, hl with | [_, _, _], _ => rfl) (fun f cdv A outer s H vs Q E hr h => ?_)
  · obtain ⟨a, b, k, r, q, rfl, _⟩ := h
    rfl
  obtain ⟨a, b, k, r, q, rfl, hr1, hq1, hl, hz, hm, give⟩ := h
  refine ⟨_,
  (pss_one (ps_ret (pe_callTy (call_tupK K) (by rfl) B.tuple (by decide +kernel) (pa_cons (pe_lc (own := [("_law_j", 3)]) (by rfl) sc_Ladded.nd (pi_rgN rfl B.range (pa_cons (pe_callB (call_lenN K) (by rfl) B.len PySem.boot_len (pa_cons (pv 0) pa_nil)) pa_nil)) (blkOk_by (own := [("_law_j", 3)]) (N := ["_law_one", "_law_other", "_law_k", "_law_j"]) (sc := defScope s_Ladded) (by decide +kernel)) (fun _ _ _ _ _ => (pg_name (i := 3) sc_Ladded.nd rfl (by first | exact Or.inl rfl | exact Or.inr rfl))) (fun _ _ _ _ _ => pts_nil) (fun _ _ _ _ _ => (pe_op op_add (pe_ix (ix_row K) (pv 0) (pv 3) (fun _ _ => rfl)) (pe_op op_mulB (pv 2) (pe_ix (ix_row K) (pv 1) (pv 3) (fun _ _ => rfl)))))) pa_nil)))), ?_⟩
  refine ⟨_, rfl, a, _, _, rfl, .inr hr1, List.length_map .., _, _, rfl, rfl, by omega, fun D hD => lc_fn (T := T) walk_N0 hD (by omega) (fun i => V.int (rf r i + k * rf q i)) (fun _ _ => trivial) ?_ gmono_name ?_⟩
  · rintro i x H1 H2 hi e ⟨rfl, rfl⟩ K1 hk
    refine ⟨rfl, _, rfl, _, rfl, a, r, _, i, rfl, rfl, e.row hr1, rfl, hi, _, rfl, _, rfl, _, rfl, b, q, _, i, rfl, rfl, e.row hq1, rfl, by omega, _, _, rfl, rfl, hm i hi, _, _, rfl, rfl, hk _ (.refl _)⟩
  · intro H1 hD1 e
    rw [addk_range k hl] at hD1
    exact ⟨_, _, rfl, .inl ⟨.of hD1, fun l hl1 => give _ _ (e.trans (.new hl1)) (row_of upd_same)⟩⟩
end
end K94

set_option Elab.async false
set_option linter.all false
set_option maxRecDepth 100000
set_option maxHeartbeats 4000000
namespace K94
open PySem PySem.Spec PyProof.Rows L2
section
variable {P : Program} {w : World} {K : PySem.W.Frag} {mg : Str → Option Value} {base : Heap} {T : TabL}
/-! ### deeds as data -/
def deedV : Deed → List V
  | .swap i j => [.str "swap", .int (i : Int), .int (j : Int)]
  | .turn i => [.str "turn", .int (i : Int)]
  | .add i j k => [.str "add", .int (i : Int), .int (j : Int), .int k]
def DeedAt (K : PySem.W.Frag) (H : Hp) (a : Addr) (d : Deed) : Prop := SqT K H a (deedV d)
/-- the table of lengths -/
structure LenD (K : PySem.W.Frag) (w : World) (mg : Str → Option Value) (L : Addr) : Prop where
  at_ : mg "LENGTHS" = some (.ref L)
  low : (L == sysModules) = false
  swap : KDct K w L "swap" (.int 3)
  turn : KDct K w L "turn" (.int 2)
  add : KDct K w L "add" (.int 4)
/-! ### is_whole, is_place, is_deed -/
def spWhole : Sp := fun vs H Q _ => ∃ i : Int, vs = [.int i] ∧ Q (.bl true) H
theorem sc_is_whole : FnScope ["thing"] ["thing"] (defScope s_is_whole) := ⟨rfl, rfl, rfl, by decide +kernel, rfl, by decide +kernel, by decide +kernel⟩
theorem ok_is_whole (F : Def K mg "is_whole" s_is_whole) (B : Bi mg)  : C8.Cal P w K mg base 1 "is_whole" (spWhole) [] := by
  refine F.cal sc_is_whole (fun vs H Q E h => ?_) (fun _ _ _ _ _ _ us hl => match us, hl with | [_], _ => rfl) (fun f cdv A outer s H vs Q E hr h => ?_)
  · obtain ⟨i, rfl, _⟩ := h
    rfl
  obtain ⟨i, rfl, k⟩ := h
  refine ⟨_,
  (pss_one (ps_ret (pe_and (pe_callB (call_is1 K) (by rfl) B.isinstance (by decide +kernel) (pa_cons (pv 0) (pa_cons (pe_bltn (v := .ty "int") (by rfl) B.int (by decide +kernel) rfl) pa_nil))) (pe_one (pe_not (pe_callB (call_is1 K) (by rfl) B.isinstance (by decide +kernel) (pa_cons (pv 0) (pa_cons (pe_bltn (v := .ty "bool") (by rfl) B.bool (by decide +kernel) rfl) pa_nil)))))))), ?_⟩
  exact ⟨_, rfl, _, "int", "int", true, rfl, .base (.int i), by decide +kernel, true, rfl, iteT ⟨_, rfl, _, "int", "bool", false, rfl, .base (.int i), by decide +kernel, false, rfl, k⟩⟩
def spPlace : Sp := fun vs H Q _ => ∃ (m i : Nat), vs = [.int (m : Int), .int (i : Int)] ∧ i < m ∧ Q (.bl true) H
theorem sc_is_place : FnScope ["many", "thing"] ["many", "thing"] (defScope s_is_place) := ⟨rfl, rfl, rfl, by decide +kernel, rfl, by decide +kernel, by decide +kernel⟩
theorem ok_is_place (F : Def K mg "is_place" s_is_place) (B : Bi mg) (c_is_whole : C8.Cal P w K mg base 1 "is_whole" spWhole []) : C8.Cal P w K mg base 2 "is_place" (spPlace) [] := by
  refine F.cal sc_is_place (fun vs H Q E h => ?_) (fun _ _ _ _ _ _ us hl => match us, hl with | [_, _], _ => rfl) (fun f cdv A outer s H vs Q E hr h => ?_)
  · obtain ⟨m, i, rfl, _⟩ := h
    rfl
  obtain ⟨m, i, rfl, hi, k⟩ := h
  refine ⟨_,
  (pss_one (ps_ret (pe_and (C8.pe_c c_is_whole hr (by decide) rfl (pa_cons (pv 1) pa_nil)) (pe_one (pe_chain op_le op_lt pe_int (pv 1) (pv 0)))))), ?_⟩
  refine ⟨_, rfl, i, rfl, true, rfl, iteT ?_⟩
  refine ⟨_, rfl, 0, i, rfl, rfl, true, ?_, iteT ⟨_, rfl, i, m, rfl, rfl, ?_⟩⟩
  · show V.bl (decide ((0 : Int) ≤ (i : Int))) = V.bl true
    rw [decide_eq_true (by omega)]
  · show Q (.bl (decide ((i : Int) < (m : Int)))) H
    rw [decide_eq_true (by omega)]
    exact k
def spDeed (K : PySem.W.Frag) : Sp := fun vs H Q _ => ∃ (m : Nat) (a : Addr) (d : Deed), vs = [.int (m : Int), .ref a] ∧ DeedAt K H a d ∧ DeedOk m d ∧ Q (.bl true) H
theorem sc_is_deed : FnScope ["many", "thing"] ["many", "thing"] (defScope s_is_deed) := ⟨rfl, rfl, rfl, by decide +kernel, rfl, by decide +kernel, by decide +kernel⟩
theorem ok_is_deed (F : Def K mg "is_deed" s_is_deed) (B : Bi mg) {L : Addr} (LD : LenD K w mg L) (c_is_whole : C8.Cal P w K mg base 1 "is_whole" spWhole []) (c_is_place : C8.Cal P w K mg base 2 "is_place" spPlace []) : C8.Cal P w K mg base 3 "is_deed" (spDeed K) [] := by
  refine F.cal sc_is_deed (fun vs H Q E h => ?_) (fun _ _ _ _ _ _ us hl => match us, hl with | [_, _], _ => rfl) (fun f cdv A outer s H vs Q E hr h => ?_)
  · obtain ⟨m, a, d, rfl, _⟩ := h
    rfl
  obtain ⟨m, a, d, rfl, ha, hok, k⟩ := h
  have hL := LD.at_
  refine ⟨_,
  (pss_cons (ps_if (PW.pt (pw_or (pt_not (pt_val (pe_callB (call_is1 K) (by rfl) B.isinstance (by decide +kernel) (pa_cons (pv 1) (pa_cons (pe_bltn (v := .ty "tuple") (by rfl) B.tuple (by decide +kernel) rfl) pa_nil))))) (pw_or (pt_cmpR op_lt (pe_callB (call_lenN K) (by rfl) B.len PySem.boot_len (pa_cons (pv 1) pa_nil)) pe_int (nomark _)) (pw_or1 (pt_not (pt_val (pe_callB (call_is1 K) (by rfl) B.isinstance (by decide +kernel) (pa_cons (pe_ix (ix_t K) (pv 1) pe_int (fun _ _ => rfl)) (pa_cons (pe_bltn (v := .ty "str") (by rfl) B.str (by decide +kernel) rfl) pa_nil)))))))))
    (pss_one (ps_ret pe_bl))
    pss_nil)
  (pss_cons (ps_if (PW.pt (pw_or (pt_cmpR op_ne (pe_kget (pe_glob (v := .ref L) rfl hL rfl) (pe_ix (ix_t K) (pv 1) pe_int (fun _ _ => rfl)) pe_int ⟨rfl, rfl, rfl, rfl⟩) (pe_callB (call_lenN K) (by rfl) B.len PySem.boot_len (pa_cons (pv 1) pa_nil)) (nomark _)) (pw_or1 (pt_not (pt_val (C8.pe_c c_is_place hr (by decide) rfl (pa_cons (pv 0) (pa_cons (pe_ix (ix_t K) (pv 1) pe_int (fun _ _ => rfl)) pa_nil))))))))
    (pss_one (ps_ret pe_bl))
    pss_nil)
  (pss_cons (ps_if (pt_cmpR op_eq (pe_ix (ix_t K) (pv 1) pe_int (fun _ _ => rfl)) pe_str (nomark _))
    (pss_one (ps_ret pe_bl))
    pss_nil)
  (pss_cons (ps_if (PW.pt (pw_or (pt_not (pt_val (C8.pe_c c_is_place hr (by decide) rfl (pa_cons (pv 0) (pa_cons (pe_ix (ix_t K) (pv 1) pe_int (fun _ _ => rfl)) pa_nil))))) (pw_or1 (pt_cmpR op_eq (pe_ix (ix_t K) (pv 1) pe_int (fun _ _ => rfl)) (pe_ix (ix_t K) (pv 1) pe_int (fun _ _ => rfl)) (nomark _)))))
    (pss_one (ps_ret pe_bl))
    pss_nil)
  (pss_one (ps_ret (pe_or (pe_cmpR op_eq (pe_ix (ix_t K) (pv 1) pe_int (fun _ _ => rfl)) pe_str (nomark _)) (pe_one (C8.pe_c c_is_whole hr (by decide) rfl (pa_cons (pe_ix (ix_t K) (pv 1) pe_int (fun _ _ => rfl)) pa_nil)))))))))), ?_⟩
  cases d with
  | swap i j =>
    obtain ⟨h1, h2, h3⟩ := hok
    refine ⟨_, rfl, _, _, "tuple", true, rfl, sqT_ty ha, by decide +kernel, true, rfl, iteF ?_⟩
    refine ⟨_, rfl, a, _, 3, rfl, .inr ha, rfl, _, _, rfl, rfl, false, by decide, iteF ?_⟩
    refine ⟨_, rfl, a, _, 0, 0, _, rfl, rfl, ha, rfl, rfl, _, "str", "str", true, rfl, .base (.str _), by decide +kernel, true, rfl, iteF ?_⟩
    refine ⟨L, rfl, ⟨_, _, LD.swap⟩, LD.low, _, rfl, a, _, 0, 0, _, rfl, rfl, ha, rfl, rfl, _, _, rfl, LD.swap, _, rfl, a, _, 3, rfl, .inr ha, rfl, rfl, _, rfl, ?_⟩
    rw [vne]
    refine iteF ?_
    refine ⟨_, rfl, _, rfl, a, _, 1, 1, _, rfl, rfl, ha, rfl, rfl, m, i, rfl, h1, true, rfl, iteF ?_⟩
    refine ⟨_, rfl, a, _, 0, 0, _, rfl, rfl, ha, rfl, rfl, rfl, false, by decide, iteF ?_⟩
    refine ⟨_, rfl, _, rfl, a, _, 2, 2, _, rfl, rfl, ha, rfl, rfl, m, j, rfl, h2, true, rfl, iteF ?_⟩
    refine ⟨_, rfl, a, _, 1, 1, _, rfl, rfl, ha, rfl, rfl, _, rfl, a, _, 2, 2, _, rfl, rfl, ha, rfl, rfl, rfl, _, rfl, ?_⟩
    rw [veq, decide_eq_false (by omega)]
    refine iteF ?_
    refine ⟨_, rfl, a, _, 0, 0, _, rfl, rfl, ha, rfl, rfl, rfl, true, by decide, iteT k⟩
  | turn i =>
    have h1 : i < m := hok
    refine ⟨_, rfl, _, _, "tuple", true, rfl, sqT_ty ha, by decide +kernel, true, rfl, iteF ?_⟩
    refine ⟨_, rfl, a, _, 2, rfl, .inr ha, rfl, _, _, rfl, rfl, false, by decide, iteF ?_⟩
    refine ⟨_, rfl, a, _, 0, 0, _, rfl, rfl, ha, rfl, rfl, _, "str", "str", true, rfl, .base (.str _), by decide +kernel, true, rfl, iteF ?_⟩
    refine ⟨L, rfl, ⟨_, _, LD.turn⟩, LD.low, _, rfl, a, _, 0, 0, _, rfl, rfl, ha, rfl, rfl, _, _, rfl, LD.turn, _, rfl, a, _, 2, rfl, .inr ha, rfl, rfl, _, rfl, ?_⟩
    rw [vne]
    refine iteF ?_
    refine ⟨_, rfl, _, rfl, a, _, 1, 1, _, rfl, rfl, ha, rfl, rfl, m, i, rfl, h1, true, rfl, iteF ?_⟩
    exact ⟨_, rfl, a, _, 0, 0, _, rfl, rfl, ha, rfl, rfl, rfl, true, by decide, iteT k⟩
  | add i j n =>
    obtain ⟨h1, h2, h3⟩ := hok
    refine ⟨_, rfl, _, _, "tuple", true, rfl, sqT_ty ha, by decide +kernel, true, rfl, iteF ?_⟩
    refine ⟨_, rfl, a, _, 4, rfl, .inr ha, rfl, _, _, rfl, rfl, false, by decide, iteF ?_⟩
    refine ⟨_, rfl, a, _, 0, 0, _, rfl, rfl, ha, rfl, rfl, _, "str", "str", true, rfl, .base (.str _), by decide +kernel, true, rfl, iteF ?_⟩
    refine ⟨L, rfl, ⟨_, _, LD.add⟩, LD.low, _, rfl, a, _, 0, 0, _, rfl, rfl, ha, rfl, rfl, _, _, rfl, LD.add, _, rfl, a, _, 4, rfl, .inr ha, rfl, rfl, _, rfl, ?_⟩
    rw [vne]
    refine iteF ?_
    refine ⟨_, rfl, _, rfl, a, _, 1, 1, _, rfl, rfl, ha, rfl, rfl, m, i, rfl, h1, true, rfl, iteF ?_⟩
    refine ⟨_, rfl, a, _, 0, 0, _, rfl, rfl, ha, rfl, rfl, rfl, false, by decide, iteF ?_⟩
    refine ⟨_, rfl, _, rfl, a, _, 2, 2, _, rfl, rfl, ha, rfl, rfl, m, j, rfl, h2, true, rfl, iteF ?_⟩
    refine ⟨_, rfl, a, _, 1, 1, _, rfl, rfl, ha, rfl, rfl, _, rfl, a, _, 2, 2, _, rfl, rfl, ha, rfl, rfl, rfl, _, rfl, ?_⟩
    rw [veq, decide_eq_false (by omega)]
    refine iteF ?_
    refine ⟨_, rfl, a, _, 0, 0, _, rfl, rfl, ha, rfl, rfl, rfl, false, by decide, iteF ?_⟩
    exact ⟨_, rfl, a, _, 3, 3, _, rfl, rfl, ha, rfl, rfl, n, rfl, k⟩
end
end K94

set_option Elab.async false
set_option linter.all false
set_option maxRecDepth 100000
set_option maxHeartbeats 4000000
/-! L3: a tuple backwards, a tuple once. -/
namespace K94
open PySem PySem.Spec PyProof.Rows L2
section
variable {prog : Program} {w : World} {A : Around} {E : Value → Shared → Prop} {s : Shared}
theorem places_down (n : Nat) : Builtin.Slice.slicePlaces ((n : Int) - 1) (-1) (-1) = n := by
  unfold Builtin.Slice.slicePlaces
  rw [if_neg (by decide)]
  by_cases h : n = 0
  · subst h; simp
  · rw [if_pos (by omega)]
    have : ((n : Int) - 1 - -1 - 1) / (- -1) = (n : Int) - 1 := by
      rw [show (- (-1 : Int)) = 1 by decide, Int.ediv_one]; omega
    rw [this]; omega
theorem fm_congr {α β : Type} {f : α → Option β} {g : α → β} : ∀ {l : List α}, (∀ m ∈ l, f m = some (g m)) → l.filterMap f = l.map g
  | [], _ => rfl
  | a :: l, h => by
    rw [List.filterMap_cons, h a List.mem_cons_self, List.map_cons]
    simp only
    rw [fm_congr fun m hm => h m (List.mem_cons_of_mem _ hm)]
theorem pick_down (xs : List Value) : ((List.range xs.length).filterMap fun (m : Nat) => xs.toArray[(((xs.length : Nat) : Int) - 1 + (m : Int) * (-1)).toNat]?) = xs.reverse := by
  have e : ∀ m ∈ List.range xs.length, (xs.toArray[(((xs.length : Nat) : Int) - 1 + (m : Int) * (-1)).toNat]? : Option Value) = some (xs.reverse.getD m .none) := fun m hm => by
    have hm' : m < xs.length := List.mem_range.mp hm
    have : (((xs.length : Nat) : Int) - 1 + (m : Int) * (-1)).toNat = xs.length - 1 - m := by omega
    rw [this, List.getElem?_toArray, List.getElem?_eq_getElem (by omega)]
    congr 1
    rw [List.getD_eq_getElem?_getD, List.getElem?_eq_getElem (by rw [List.length_reverse]; exact hm'), List.getElem_reverse]
    rfl
  rw [fm_congr e]
  refine List.ext_getElem (by simp) fun i h1 h2 => ?_
  rw [List.getElem_map, List.getElem_range, List.getD_eq_getElem?_getD, List.getElem?_eq_getElem h2]
  rfl
theorem tuple_back {t sl : Addr} {its : List Value} {vl vu vs : Value} {Q : Value → Shared → Prop} (ht : IsTup s.heap t its.toArray) (hs : s.heap.IsSliceOf sl vl vu vs) (pl : IsPart vl none) (pu : IsPart vu none) (ps : IsPart vs (some (-1)))
    (h : Q (.ref s.heap.objs.size) { s with heap := s.heap.push { cls := .type "tuple", data := .seq its.reverse.toArray } }) (hsz : its.length ≤ sizeLine) : wpAny (model prog w) A (getItem (.ref t) (.ref sl)) Q E s := by
  obtain ⟨os, hos, hcs, hds⟩ := id hs
  have hTs : s.TypeIs (.ref sl) "slice" := ⟨os, hos, hcs⟩
  have htake : sizeOk (.seq its.reverse.toArray) := by
    show its.reverse.toArray.size ≤ sizeLine
    rw [List.size_toArray, List.length_reverse]; exact hsz
  unfold getItem
  try with_reducible refine wpAny_holding ?_
  first | refine wpAny_bind (wpAny_pure ?_) | skip
  refine wpAny_bind (wpAny_sequenceKey ht.typeIs (by decide) ?_)
  refine wpAny_bind (wpAny_callSpecial?_slot (name := Str.ofString "__getitem__") ht.typeIs PyProof.Rows.slot_tuple_getitem
    (wpAny_call_entry PyProof.Rows.slot_tuple_getitem ht.typeIs entry_tuple_getitem ?_ (args_tuple_getitem _ _)))
  show wpAny _ _ (Builtin.Tuple.tupleItemsOf (.ref t) >>= _) _ _ s
  refine wpAny_bind (tupleItemsOf_ ht ?_)
  refine wpAny_bind (wpAny_typeOf hTs ?_)
  rw [if_pos (by decide)]
  refine wpAny_bind ?_
  have ap : ∀ {A' : Around} {E' : Value → Shared → Prop} {R : Int × Int × Nat → Shared → Prop}, R (((its.length : Nat) : Int) - 1, -1, its.length) s → wpAny (model prog w) A' (Builtin.Slice.sliceApplied (.ref sl) (pure (its.toArray.size : Int))) R E' s := by
    intro A' E' R hR
    unfold Builtin.Slice.sliceApplied Builtin.Slice.sliceFields
    refine wpAny_bind (wpAny_bind (wpAny_field hos hds (x := vl) rfl (wpAny_bind (wpAny_field hos hds (x := vu) rfl (wpAny_bind (wpAny_field hos hds (x := vs) rfl (wpAny_pure ?_)))))))
    refine wpAny_bind (HT.slicePart_ ps ?_)
    show wpAny _ _ (if ((-1 : Int) == 0) = true then _ else _) _ _ s
    rw [if_neg (by decide)]
    refine wpAny_bind (HT.slicePart_ pl (wpAny_bind (HT.slicePart_ pu (wpAny_bind (wpAny_pure ?_)))))
    show wpAny _ _ (match Builtin.Slice.sliceAdjust none none (-1) (its.toArray.size : Int) with | (lo, hi) => pure (lo, (-1 : Int), Builtin.Slice.slicePlaces lo hi (-1))) _ _ s
    have e : Builtin.Slice.sliceAdjust none none (-1) (its.toArray.size : Int) = (((its.length : Nat) : Int) - 1, -1) := by
      rw [List.size_toArray]; rfl
    rw [e]
    show wpAny _ _ (pure (((its.length : Nat) : Int) - 1, (-1 : Int), Builtin.Slice.slicePlaces (((its.length : Nat) : Int) - 1) (-1) (-1))) _ _ s
    rw [places_down]
    exact wpAny_pure hR
  refine ap ?_
  have hno : ¬ ((((its.length : Nat) : Int) - 1 == 0 && (-1 : Int) == 1 && its.length == its.toArray.size) = true) := by
    rw [Bool.and_eq_true, Bool.and_eq_true]
    rintro ⟨⟨_, q⟩, _⟩
    exact absurd q (by decide)
  show wpAny _ _ (if (((its.length : Nat) : Int) - 1 == 0 && (-1 : Int) == 1 && its.length == its.toArray.size) = true then _ else _) _ _ s
  rw [if_neg hno, pick_down]
  first
    | exact wpAny_bind (m := Builtin.Tuple.tupleExact _) (wpAny_newObj_type (wpAny_pure ⟨_, rfl, wpAny_pure h⟩) htake)
    | exact wpAny_bind (m := Builtin.Tuple.tupleExact _) (wpAny_newObj_type (wpAny_bind (wpAny_pure (wpAny_pure ⟨_, rfl, wpAny_pure h⟩))) htake)
    | exact wpAny_bind (wpAny_bind (m := Builtin.Tuple.tupleExact _) (wpAny_newObj_type (wpAny_pure (wpAny_pure ⟨_, rfl, wpAny_pure h⟩)) htake))
    | exact wpAny_bind (wpAny_bind (m := Builtin.Tuple.tupleExact _) (wpAny_newObj_type (wpAny_pure ⟨_, rfl, wpAny_pure h⟩) htake))
end
section
variable {X : Cx}
def tRevT (K : PySem.W.Frag) (te : TE) : TE := fun σ H Q => te σ H fun x H1 => ∃ a xs, x = .ref a ∧ SqT K H1 a xs ∧ ∀ p, H1 p = none → Q (.ref p) (upd H1 p (.tup xs.reverse))
theorem pe_revT {e : Expr} {te : TE} {k : Nat} {p1 p2 p3 pos : Pos} (he : PE X e te) : PE X (.Subscript e (.Slice none none (some (.UnaryOp .USub (.Constant (.int 1) k p1) p2)) p3) pos) (tRevT X.K te) := by
  refine ⟨fun pins s σ H Q I h => ?_⟩
  refine Subscript_ (thn (he.run pins s σ H _ I h) fun v s1 ⟨x, H1, I1, r1, q1⟩ => ?_)
  obtain ⟨a, xs, ex, hx, q⟩ := q1
  subst ex
  cases r1
  have hst : PO X (some (.UnaryOp .USub (.Constant (.int 1) k p1) p2)) (tPart (tUn (rU fun i => .int (-i)) (tC (.int 1)))) := po_some (pe_un un_neg pe_int)
  refine wpAny_Slice (thn (po_none.run pins s1 σ H1 (fun o H2 => o = none ∧ H2 = H1) I1 ⟨rfl, rfl⟩) fun vl s2 ⟨l, H2, I2, pl, el, e2⟩ => ?_)
  subst el e2
  refine thn (po_none.run pins s2 σ H2 (fun o H3 => o = none ∧ H3 = H2) I2 ⟨rfl, rfl⟩) fun vu s3 ⟨u, H3, I3, pu, eu, e3⟩ => ?_
  subst eu e3
  refine thn (hst.run pins s3 σ H3 (fun o H4 => o = some (-1) ∧ H4 = H3) I3 ⟨1, rfl, -1, rfl, rfl, rfl⟩) fun vs s4 ⟨o, H4, I4, ps, eo, e4⟩ => ?_
  subst eo e4
  have I5 : Inv X pins σ H4 { s4 with heap := s4.heap.push { cls := .type "slice", data := .fields #[vl, vu, vs] } } := I4.kept (t' := s4.toks) fun b ob q => Heap.get?_push_of_some _ q
  obtain ⟨its, r, ht, hz⟩ := I5.tuple hx
  have hlen := r.length
  show wpAny (model X.prog X.w) X.A (subscriptTail e (.Slice none none (some (.UnaryOp .USub (.Constant (.int 1) k p1) p2)) p3) (.ref a) (.ref s4.heap.objs.size)) (EP X pins σ Q) X.xe { s4 with heap := s4.heap.push { cls := .type "slice", data := .fields #[vl, vu, vs] } }
  refine tail_any (ops := [.ref a, .ref s4.heap.objs.size]) ht.typeIs (PyProof.Rows.slot_tuple_getitem.lookup) ?_ (by with_unfolding_all rfl)
  refine tuple_back ht (Heap.IsSliceOf.new _ vl vu vs) pl pu ps ?_ (by omega)
  refine ⟨.ref _, _, I5.laid (t' := s4.toks) (o := .tup xs.reverse) (fun b ob q => Heap.get?_push_of_some _ q) (Nat.le_refl _) ?_, rfl, q _ (I5.hok.fresh (Nat.le_refl _))⟩
  exact ⟨by rw [List.length_reverse]; exact hz, _, r.reverse, IsTup.new _ _⟩
theorem tuple_mul1 (l : Addr) (items : Array Value) (n : Nat) (dd : Option Addr) (sl : Array (Option Value)) (u : Tok) :
    Meets (Builtin.«tuple.__mul__» ⟨[.ref l, .int 1 u], []⟩) (fun _ R s => s.heap.get? l = some { cls := .type "tuple", dict := dd, data := .seq items n, slots := sl } ∧ R (.ok (.ret (Value.ref l))) s) :=
  .of_wp fun prog w A R s h => by
    obtain ⟨hp, g, d, tk, os⟩ := s
    obtain ⟨hl, h⟩ := h
    have f1 := AutoSeq1.idx_int
    have c0 : (decide ((1 : Int) < -(2 ^ 63)) || decide ((1 : Int) ≥ 2 ^ 63)) = false := by decide
    have c1 : (items.isEmpty || (1 : Int) == 1) = true := by simp
    wp_walk using wpAny_loadPart' hl
    repeat (first
      | (refine wpAny_ite_false (decide_eq_false (by rw [c0]; exact Bool.false_ne_true)) ?_; wp_walk using wpAny_loadPart' hl)
      | (refine wpAny_ite_true (decide_eq_true c1) ?_; wp_walk using wpAny_loadPart' hl))
    exact ⟨_, rfl, h⟩
/-- (x,) * k -/
def rRep1 (K : PySem.W.Frag) : R2 := fun x y H Q => ∃ (l : Addr) (k : Int) (n : Nat) (v : V), x = .ref l ∧ y = .int k ∧ SqT K H l [v] ∧ k = (n : Int) ∧ 1 ≤ n ∧ n ≤ 1000 ∧
  ∀ p H', (H' = H ∧ p = l ∨ H p = none ∧ H' = upd H p (.tup (List.replicate n v))) → SqT K H' p (List.replicate n v) → Q (.ref p) H'
theorem op_rep1 (K : PySem.W.Frag) (hK : X.K = K := by rfl) : OpR X (binaryOp .Mult) (rRep1 K) := by
  subst hK
  intro pins s σ H x y v u Q I rx ry h
  obtain ⟨l, k, n, z, rfl, rfl, hT, hk, h1, h2, q⟩ := h
  by_cases hn : n = 1
  · subst hn
    have hk1 : k = 1 := by omega
    subst hk1
    cases rx
    obtain ⟨t, rfl⟩ := ry
    obtain ⟨its, r, ⟨⟨cls, dd, data, sl⟩, ho, hc, m, hd⟩, hs⟩ := I.tuple hT
    simp only at hc hd
    subst hc hd
    exact wpAny_binaryOp_repeat_ref (T := "tuple") (U := "int") (by decide) ⟨_, ho, rfl⟩ (fun s' => typeIs_int s' 1 t) noFill_tuple_mul F.fills_int_mul F.slot_int_rmul repeat_tuple F.slot_int_index.lookup
      (call_meets F.slot_int_rmul (typeIs_int s 1 t) F.entry_int_rmul (F.args_int_rmul_2 _ _) (int_rmul_tuple 1 t l its.toArray m dd sl)
        ⟨ho, rfl, ⟨_, ho, rfl⟩, call_meets F.slot_tuple_mul ⟨_, ho, rfl⟩ F.entry_tuple_mul (F.args_tuple_mul_2 _ _) (tuple_mul1 l its.toArray m dd sl t) ⟨ho, .ref l, H, I, rfl, q l H (.inl ⟨rfl, rfl⟩) hT⟩⟩)
  · have e : (List.replicate k.toNat [z]).flatten = List.replicate n z := by
      have : k.toNat = n := by omega
      rw [this]
      clear hn h1 h2 q hk this
      induction n with
      | zero => rfl
      | succ n ih => rw [List.replicate_succ, List.flatten_cons, ih, List.replicate_succ]; rfl
    exact op_repT pins s σ H _ _ v u Q I rx ry ⟨l, k, [z], rfl, rfl, hT, List.cons_ne_nil _ _, by omega, by omega, by simp, fun p hp => by
      rw [e]
      exact q p _ (.inr ⟨hp, rfl⟩) (.inl (.inl upd_same))⟩
end
end K94

set_option Elab.async false
set_option linter.all false
set_option maxRecDepth 100000
set_option maxHeartbeats 4000000
namespace K94
open PySem PySem.Spec PyProof.Rows L2
section
variable {P : Program} {w : World} {K : PySem.W.Frag} {mg : Str → Option Value} {base : Heap} {T : TabL}
theorem ixN_nat {n j : Nat} (hj : j < n) : ixN n (j : Int) = some j := by
  unfold ixN
  rw [if_pos (by omega), if_pos (by omega)]
  simp
/-! ### unit tables -/
def spUnitRow (T : TabL) (K : PySem.W.Frag) : Sp := fun vs H Q _ => ∃ (n k : Nat), vs = [.int (n : Int), .int (k : Int)] ∧ n ≤ 1000 ∧ GiveR T K H Q (unitRow n k)
theorem sc_unit_row : FnScope ["n", "at", "k"] ["n", "at"] (defScope s_unit_row) := ⟨rfl, rfl, rfl, by decide +kernel, rfl, by decide +kernel, by decide +kernel⟩
theorem ok_unit_row (F : Def K mg "unit_row" s_unit_row) (B : Bi mg)  : C8.Cal P w K mg base 1 "unit_row" (spUnitRow T K) [] := by
  refine F.cal sc_unit_row (fun vs H Q E h => ?_) (fun _ _ _ _ _ _ us hl => match us, hl with | [_, _], _ => rfl) (fun f cdv A outer s H vs Q E hr h => ?_)
  · obtain ⟨n, k, rfl, _⟩ := h
    rfl
  obtain ⟨n, m, rfl, hn, k⟩ := h
  refine ⟨_,
  (pss_one (ps_ret (pe_callTy (call_tupK K) (by rfl) B.tuple (by decide +kernel) (pa_cons (pe_lc (own := [("k", 2)]) (by rfl) sc_unit_row.nd (pi_rgN rfl B.range (pa_cons (pv 0) pa_nil)) (blkOk_by (own := [("k", 2)]) (N := ["n", "at", "k"]) (sc := defScope s_unit_row) (by decide +kernel)) (fun _ _ _ _ _ => (pg_name (i := 2) sc_unit_row.nd rfl (by first | exact Or.inl rfl | exact Or.inr rfl))) (fun _ _ _ _ _ => pts_nil) (fun _ _ _ _ _ => (pe_callTy call_int1 (by rfl) B.int (by decide +kernel) (pa_cons (pe_cmpR op_eq (pv 2) (pv 1) (nomark _)) pa_nil)))) pa_nil)))), ?_⟩
  refine ⟨_, rfl, _, _, rfl, rfl, by omega, fun D hD => lc_fn (T := T) walk_N0 hD (by omega) (fun i => V.int (if i = m then 1 else 0)) (fun _ _ => trivial) ?_ gmono_name ?_⟩
  · rintro i x H1 H2 hi e ⟨rfl, rfl⟩ K1 hk
    refine ⟨rfl, _, rfl, _, rfl, rfl, .inr ⟨_, rfl, ?_⟩⟩
    have e2 : (decide (V.int (i : Int) = V.int (m : Int))) = decide (i = m) := by
      rw [veq]; by_cases h : i = m
      · subst h; simp
      · rw [decide_eq_false h, decide_eq_false (by omega)]
    rw [e2]
    have := hk _ (.refl _)
    by_cases h : i = m
    · rw [if_pos h] at this; rw [decide_eq_true h]; exact this
    · rw [if_neg h] at this; rw [decide_eq_false h]; exact this
  · intro H1 hD1 e
    have e3 : (List.range n).map (fun i => V.int (if i = m then 1 else 0)) = (unitRow n m).map V.int := by
      unfold unitRow; rw [List.map_map]; rfl
    rw [e3] at hD1
    exact ⟨_, _, rfl, .inl ⟨.of hD1, fun l hl1 => k _ _ (e.trans (.new hl1)) (row_of upd_same)⟩⟩
/-- a def gives a table -/
def GiveT (T : TabL) (K : PySem.W.Frag) (H : Hp) (Q : VK) (w : Nat) (R : List Row) : Prop := ∀ H' p, Ex T H H' → TabAt K H' p w R → Q (.ref p) H'
def spUnit (T : TabL) (K : PySem.W.Frag) : Sp := fun vs H Q _ => ∃ (n : Nat), vs = [.int (n : Int)] ∧ n ≤ 1000 ∧ GiveT T K H Q n (unitRows n)
theorem sc_unit : FnScope ["n", "k"] ["n"] (defScope s_unit) := ⟨rfl, rfl, rfl, by decide +kernel, rfl, by decide +kernel, by decide +kernel⟩
theorem ok_unit (F : Def K mg "unit" s_unit) (B : Bi mg) (c_unit_row : C8.Cal P w K mg base 1 "unit_row" (spUnitRow T K) []) : C8.Cal P w K mg base 2 "unit" (spUnit T K) [] := by
  refine F.cal sc_unit (fun vs H Q E h => ?_) (fun _ _ _ _ _ _ us hl => match us, hl with | [_], _ => rfl) (fun f cdv A outer s H vs Q E hr h => ?_)
  · obtain ⟨n, rfl, _⟩ := h
    rfl
  obtain ⟨n, rfl, hn, k⟩ := h
  refine ⟨_,
  (pss_one (ps_ret (pe_tup (pa_cons (pv 0) (pa_cons (pe_callTy (call_tupK K) (by rfl) B.tuple (by decide +kernel) (pa_cons (pe_lc (own := [("k", 1)]) (by rfl) sc_unit.nd (pi_rgN rfl B.range (pa_cons (pv 0) pa_nil)) (blkOk_by (own := [("k", 1)]) (N := ["n", "k"]) (sc := defScope s_unit) (by decide +kernel)) (fun _ _ _ _ _ => (pg_name (i := 1) sc_unit.nd rfl (by first | exact Or.inl rfl | exact Or.inr rfl))) (fun _ _ _ _ _ => pts_nil) (fun _ _ _ _ _ => (C8.pe_c c_unit_row hr (by decide) rfl (pa_cons (pv 0) (pa_cons (pv 1) pa_nil))))) pa_nil)) pa_nil))))), ?_⟩
  refine ⟨_, rfl, _, rfl, _, _, rfl, rfl, by omega, fun D hD => lc_obj (T := T) (A := RowAt K) walk_N0 hD (by omega) (fun i => unitRow n i) (fun H H' p b h e => e.row h) (fun H p b l l' h hD => row_upd h hD) (fun _ _ => trivial) ?_ gmono_name ?_⟩
  · rintro i x H1 H2 hi e ⟨rfl, rfl⟩ K1 hk
    exact ⟨rfl, _, rfl, _, rfl, n, i, rfl, hn, fun H' p e2 h => hk p H' e2 h⟩
  · intro as H1 hD1 al e
    refine ⟨_, _, rfl, .inl ⟨.of hD1, fun l hl => ⟨by show 2 ≤ _; decide, fun p hp => k _ _ ((e.trans (.new hl)).trans (.new hp)) ⟨l, sqT_of upd_same, as, ?_, ?_⟩⟩⟩⟩
    · exact Ex.sqT (T := T) (.new hp) (sqT_of upd_same)
    · exact Ex.all (T := T) (.new hp) (Ex.all (T := T) (.new hl) al)
/-! ### deeds looked at -/
theorem deed_upd {H : Hp} {a D : Addr} {d : Deed} {l : List V} {o : HO} (h : DeedAt K H a d) (hD : H D = some (.lst l)) : DeedAt K (upd H D o) a d := sqT_upd h hD
/-- deeds, each at its address -/
def DeedsAt (K : PySem.W.Frag) (H : Hp) (as : List Addr) (ds : List Deed) : Prop := All2 (DeedAt K H) as ds
theorem Ex.deeds {H H' : Hp} {as : List Addr} {ds : List Deed} (x : Ex T H H') (h : DeedsAt K H as ds) : DeedsAt K H' as ds := h.imp fun _ _ h => x.sqT h
def spLook (T : TabL) (K : PySem.W.Frag) : Sp := fun vs H Q _ => ∃ (m : Nat) (a : Addr) (as : List Addr) (ds : List Deed), vs = [.int (m : Int), .ref a] ∧ SqT K H a (as.map V.ref) ∧ DeedsAt K H as ds ∧ (∀ d ∈ ds, DeedOk m d) ∧ ∀ H', Ex T H H' → Q .non H'
theorem sc_look_at : FnScope ["many", "deeds", "number", "deed"] ["many", "deeds"] (defScope s_look_at) := ⟨rfl, rfl, rfl, by decide +kernel, rfl, by decide +kernel, by decide +kernel⟩
theorem ok_look_at (F : Def K mg "look_at" s_look_at) (B : Bi mg) (c_is_deed : C8.Cal P w K mg base 3 "is_deed" (spDeed K) []) : C8.Cal P w K mg base 4 "look_at" (spLook T K) [] := by
  refine F.cal sc_look_at (fun vs H Q E h => ?_) (fun _ _ _ _ _ _ us hl => match us, hl with | [_, _], _ => rfl) (fun f cdv A outer s H vs Q E hr h => ?_)
  · obtain ⟨m, a, as, ds, rfl, _⟩ := h
    rfl
  obtain ⟨m, a, as, ds, rfl, ha, hds, hok, k⟩ := h
  refine ⟨_,
  (pss_cons (ps_if (pt_not (pt_val (pe_callB (call_is1 K) (by rfl) B.isinstance (by decide +kernel) (pa_cons (pv 1) (pa_cons (pe_bltn (v := .ty "tuple") (by rfl) B.tuple (by decide +kernel) rfl) pa_nil)))))
    (pss_one (ps_never))
    pss_nil)
  (pss_one (ps_for PassesOwn.never rfl (pi_eK K rfl (by rfl) B.enumerate (pa_cons (pv 1) pa_nil)) (pg_tK K rfl (n := 2) (pgs_cons (pg_name (i := 2) sc_look_at.nd rfl (by first | exact Or.inl rfl | exact Or.inr rfl)) (pgs_cons (pg_name (i := 3) sc_look_at.nd rfl (by first | exact Or.inl rfl | exact Or.inr rfl)) pgs_nil)))
    (pss_one (ps_if (pt_not (pt_val (C8.pe_c c_is_deed hr (by decide) rfl (pa_cons (pv 0) (pa_cons (pv 3) pa_nil)))))
      (pss_one (ps_never))
      pss_nil))))), ?_⟩
  refine ⟨_, rfl, _, _, "tuple", true, rfl, sqT_ty ha, by decide +kernel, true, rfl, iteF ?_⟩
  refine ⟨_, rfl, a, _, rfl, ha, for_it walk_enumT (fun i σ H' => Ex T H H' ∧ ∃ u v, σ = [some (.int (m : Int)), some (.ref a), u, v]) ⟨.refl H, _, _, rfl⟩ (fun i σ H' _ h => h.1.sqT ha) ?_ ?_⟩
  · rintro i x σ H0 H' hi ⟨hx, u, v, rfl⟩ ⟨z, c, y, rfl, hz, rfl, h1, h2⟩
    cases h1
    obtain ⟨b, hb, rfl⟩ := ref_get h2
    obtain ⟨d, hd, hda⟩ := hds.get hb
    have e1 := hx.trans (.new hz (o := .tup [.int (i : Nat), .ref b]))
    refine pair_g (sqT_of upd_same) ?_
    exact ⟨_, rfl, _, rfl, m, b, d, rfl, e1.sqT hda, hok d (List.mem_of_getElem? hd), true, rfl, iteF ⟨e1, _, _, rfl⟩⟩
  · rintro σ H' ⟨hx, u, v, rfl⟩
    exact k _ hx
/-! ### rows behind a deed -/
def MulD (R : List Row) : Deed → Prop
  | .add _ j k => ∀ c, c < (R.getD j []).length → IntMulOk k (ent R j c)
  | _ => True
theorem rows_get {as : List Addr} {R : List Row} {H : Hp} {m w' : Nat} (h : All2 (RowAt K H) as R) (t : Tab m w' R) {i : Nat} (hi : i < m) : ∃ a, (as.map V.ref)[i]? = some (.ref a) ∧ RowAt K H a (R.getD i []) := by
  have hl : i < R.length := by rw [t.len]; exact hi
  have : R[i]? = some (R.getD i []) := by simp [hl]
  obtain ⟨a, ha, hr⟩ := h.get' this
  exact ⟨a, by rw [List.getElem?_map, ha]; rfl, hr⟩
def spBehind (T : TabL) (K : PySem.W.Frag) : Sp := fun vs H Q _ => ∃ (a b : Addr) (m w : Nat) (R : List Row) (d : Deed), vs = [.ref a, .ref b] ∧ RowsL K H a R ∧ Tab m w R ∧ DeedAt K H b d ∧ DeedOk m d ∧ MulD R d ∧ m ≤ 1000 ∧ w ≤ 1000 ∧
  ∀ H' p, Ex T H H' → RowsL K H' p (rowsB R d) → Q (.ref p) H'
theorem sc_rows_behind : FnScope ["rows", "deed", "found", "i", "number", "more"] ["rows", "deed"] (defScope s_rows_behind) := ⟨rfl, rfl, rfl, by decide +kernel, rfl, by decide +kernel, by decide +kernel⟩
theorem ok_rows_behind (F : Def K mg "rows_behind" s_rows_behind) (B : Bi mg)  : C8.Cal P w K mg base 1 "rows_behind" (spBehind T K) [] := by
  refine F.cal sc_rows_behind (fun vs H Q E h => ?_) (fun _ _ _ _ _ _ us hl => match us, hl with | [_, _], _ => rfl) (fun f cdv A outer s H vs Q E hr h => ?_)
  · obtain ⟨a, b, m, w', R, d, rfl, _⟩ := h
    rfl
  obtain ⟨a, b, m, w', R, d, rfl, ⟨as, hsq, hrows⟩, tab, hd, hok, hmul, hm, hw, k⟩ := h
  refine ⟨_,
  (pss_cons (ps_set (i := 2) sc_rows_behind.nd rfl (by first | exact Or.inl rfl | exact Or.inr rfl) (pe_callTy (call_lstK K) (by rfl) B.list (by decide +kernel) (pa_cons (pv 0) pa_nil)))
  (pss_cons (ps_set (i := 3) sc_rows_behind.nd rfl (by first | exact Or.inl rfl | exact Or.inr rfl) (pe_ix (ix_t K) (pv 1) pe_int (fun _ _ => rfl)))
  (pss_cons (ps_if (pt_cmpR op_eq (pe_ix (ix_t K) (pv 1) pe_int (fun _ _ => rfl)) pe_str (nomark _))
    (pss_one (ps_asg (pe_callTy (call_tupK K) (by rfl) B.tuple (by decide +kernel) (pa_cons (pe_lc (own := [("number", 4)]) (by rfl) sc_rows_behind.nd (pi_tK K rfl (pe_ix (ix_l K) (pv 0) (pv 3) (fun _ _ => rfl))) (blkOk_by (own := [("number", 4)]) (N := ["rows", "deed", "found", "i", "number", "more"]) (sc := defScope s_rows_behind) (by decide +kernel)) (fun _ _ _ _ _ => (pg_name (i := 4) sc_rows_behind.nd rfl (by first | exact Or.inl rfl | exact Or.inr rfl))) (fun _ _ _ _ _ => pts_nil) (fun _ _ _ _ _ => (pe_un un_neg (pv 4)))) pa_nil)) (pg_sub (pv 2) (pv 3) set_list)))
    (pss_one (ps_if (pt_cmpR op_eq (pe_ix (ix_t K) (pv 1) pe_int (fun _ _ => rfl)) pe_str (nomark _))
      (pss_cons (ps_asg (pe_ix (ix_l K) (pv 0) (pe_ix (ix_t K) (pv 1) pe_int (fun _ _ => rfl)) (fun _ _ => rfl)) (pg_sub (pv 2) (pv 3) set_list))
      (pss_one (ps_asg (pe_ix (ix_l K) (pv 0) (pv 3) (fun _ _ => rfl)) (pg_sub (pv 2) (pe_ix (ix_t K) (pv 1) pe_int (fun _ _ => rfl)) set_list))))
      (pss_one (ps_asg (pe_callTy (call_tupK K) (by rfl) B.tuple (by decide +kernel) (pa_cons (pe_lc (own := [("number", 4), ("more", 5)]) (by rfl) sc_rows_behind.nd (pi_zK K rfl (by rfl) B.zip (pa_cons (pe_ix (ix_l K) (pv 0) (pv 3) (fun _ _ => rfl)) (pa_cons (pe_ix (ix_l K) (pv 0) (pe_ix (ix_t K) (pv 1) pe_int (fun _ _ => rfl)) (fun _ _ => rfl)) pa_nil))) (blkOk_by (own := [("number", 4), ("more", 5)]) (N := ["rows", "deed", "found", "i", "number", "more"]) (sc := defScope s_rows_behind) (by decide +kernel)) (fun _ _ _ _ _ => (pg_tK K rfl (n := 2) (pgs_cons (pg_name (i := 4) sc_rows_behind.nd rfl (by first | exact Or.inl rfl | exact Or.inr rfl)) (pgs_cons (pg_name (i := 5) sc_rows_behind.nd rfl (by first | exact Or.inl rfl | exact Or.inr rfl)) pgs_nil)))) (fun _ _ _ _ _ => pts_nil) (fun _ _ _ _ _ => (pe_op op_add (pv 4) (pe_op op_mulB (pe_ix (ix_t K) (pv 1) pe_int (fun _ _ => rfl)) (pv 5))))) pa_nil)) (pg_sub (pv 2) (pv 3) set_list))))))
  (pss_one (ps_ret (pv 2)))))), ?_⟩
  refine ⟨_, rfl, a, _, rfl, .inl hsq, fun l hl => ?_⟩
  have e0 : Ex T H (upd H l (.lst (as.map V.ref))) := .new hl
  have hlen : as.length = m := by rw [hrows.length, tab.len]
  cases d with
  | turn i =>
    have hi : i < m := hok
    obtain ⟨c, hc, hcr⟩ := rows_get hrows tab hi
    refine ⟨_, rfl, b, _, _, 1, _, rfl, rfl, e0.sqT hd, rfl, rfl, ?_⟩
    refine ⟨_, rfl, b, _, _, 0, _, rfl, rfl, e0.sqT hd, rfl, rfl, rfl, true, by decide, iteT ?_⟩
    refine ⟨_, rfl, _, rfl, a, _, _, i, _, rfl, rfl, e0.sqL hsq, rfl, hc, c, rfl, ⟨_, e0.row hcr⟩, fun D hD => ?_⟩
    refine lc_fn (T := T) walk_tup hD (by rw [List.length_map, getD_len tab hi]; omega) (fun t => V.int (- rf (R.getD i []) t)) (fun _ e => e.row (e0.row hcr)) ?_ gmono_name ?_
    · rintro t x H1 H2 ht e ⟨rfl, hx⟩ K1 hk
      obtain ⟨n, hn, rfl⟩ := map_get hx
      rw [← rf_at hn]
      exact ⟨rfl, _, rfl, _, rfl, hk _ (.refl _)⟩
    · intro H1 hD1 e
      have e3 : (List.range ((R.getD i []).map V.int).length).map (fun t => V.int (- rf (R.getD i []) t)) = ((R.getD i []).map fun x => -x).map V.int := by
        refine List.ext_getElem? fun t => ?_
        by_cases ht : t < (R.getD i []).length
        · rw [List.getElem?_map, List.getElem?_range (by rw [List.length_map]; exact ht), List.getElem?_map, List.getElem?_map, rf_get ht]; rfl
        · rw [List.getElem?_eq_none (by simp at ht ⊢; omega), List.getElem?_eq_none (by simp at ht ⊢; omega)]
      rw [e3] at hD1
      refine ⟨_, _, rfl, .inl ⟨.of hD1, fun p hp => ?_⟩⟩
      have e4 : Ex T (upd H l (.lst (as.map V.ref))) (upd H1 p (.tup (((R.getD i []).map fun x => -x).map V.int))) := e.trans (.new hp)
      have hl4 := e4.lst upd_same
      refine ⟨_, rfl, _, rfl, l, _, _, i, rfl, rfl, hl4, ixN_nat (by rw [List.length_map, hlen]; exact hi), ?_⟩
      refine ⟨_, rfl, k _ _ ((e0.trans e4).mut hl hl4 (plain_lst _)) ⟨as.set i p, .of (by rw [List.map_set]; exact upd_same), rows_upd (All2.set (row_of upd_same) i (e4.all (e0.all hrows))) hl4⟩⟩
  | swap i j =>
    obtain ⟨h1, h2, h3⟩ := hok
    obtain ⟨c, hc, hcr⟩ := rows_get hrows tab h1
    obtain ⟨c2, hc2, hcr2⟩ := rows_get hrows tab h2
    refine ⟨_, rfl, b, _, _, 1, _, rfl, rfl, e0.sqT hd, rfl, rfl, ?_⟩
    refine ⟨_, rfl, b, _, _, 0, _, rfl, rfl, e0.sqT hd, rfl, rfl, rfl, false, by decide, iteF ?_⟩
    refine ⟨_, rfl, b, _, _, 0, _, rfl, rfl, e0.sqT hd, rfl, rfl, rfl, true, by decide, iteT ?_⟩
    refine ⟨_, rfl, _, rfl, b, _, _, 2, _, rfl, rfl, e0.sqT hd, rfl, rfl, a, _, _, j, _, rfl, rfl, e0.sqL hsq, rfl, hc2, ?_⟩
    refine ⟨_, rfl, _, rfl, l, _, _, i, rfl, rfl, upd_same, ixN_nat (by rw [List.length_map, hlen]; exact h1), ?_⟩
    rw [upd_upd]
    have e1 : Ex T H (upd H l (.lst ((as.map V.ref).set i (.ref c2)))) := .new hl
    refine ⟨_, rfl, _, rfl, a, _, _, i, _, rfl, rfl, e1.sqL hsq, rfl, hc, ?_⟩
    refine ⟨_, rfl, _, rfl, b, _, _, 2, _, rfl, rfl, e1.sqT hd, rfl, rfl, l, _, _, j, rfl, rfl, upd_same, ixN_nat (by rw [List.length_set, List.length_map, hlen]; exact h2), ?_⟩
    rw [upd_upd]
    have e2 : Ex T H (upd H l (.lst (((as.map V.ref).set i (.ref c2)).set j (.ref c)))) := .new hl
    refine ⟨_, rfl, k _ _ e2 ⟨(as.set i c2).set j c, .of (by rw [List.map_set, List.map_set]; exact upd_same), e2.all ?_⟩⟩
    exact All2.set hcr j (All2.set hcr2 i hrows)
  | add i j n =>
    obtain ⟨h1, h2, h3⟩ := hok
    obtain ⟨c, hc, hcr⟩ := rows_get hrows tab h1
    obtain ⟨c2, hc2, hcr2⟩ := rows_get hrows tab h2
    have l1 := getD_len tab h1
    have l2 := getD_len tab h2
    refine ⟨_, rfl, b, _, _, 1, _, rfl, rfl, e0.sqT hd, rfl, rfl, ?_⟩
    refine ⟨_, rfl, b, _, _, 0, _, rfl, rfl, e0.sqT hd, rfl, rfl, rfl, false, by decide, iteF ?_⟩
    refine ⟨_, rfl, b, _, _, 0, _, rfl, rfl, e0.sqT hd, rfl, rfl, rfl, false, by decide, iteF ?_⟩
    refine ⟨_, rfl, _, rfl, a, _, _, i, _, rfl, rfl, e0.sqL hsq, rfl, hc, _, rfl, _, rfl, b, _, _, 2, _, rfl, rfl, e0.sqT hd, rfl, rfl, a, _, _, j, _, rfl, rfl, e0.sqL hsq, rfl, hc2, ?_⟩
    refine ⟨c, c2, _, _, rfl, .inr ⟨e0.row hcr, e0.row hcr2, fun D hD => ?_⟩⟩
    refine lc_fn (T := T) (walk_zipT (by rw [List.length_map, List.length_map, l1, l2])) hD (by rw [List.length_map, l1]; omega) (fun t => V.int (rf (R.getD i []) t + n * rf (R.getD j []) t)) (fun _ e => ⟨e.row (e0.row hcr), e.row (e0.row hcr2)⟩) ?_ gmono_two ?_
    · rintro t x H1 H2 ht e ⟨z, y1, y2, rfl, hz, rfl, g1, g2⟩ K1 hk
      obtain ⟨n1, hn1, rfl⟩ := map_get g1
      obtain ⟨n2, hn2, rfl⟩ := map_get g2
      have ht' : t < (R.getD j []).length := by rw [List.length_map] at ht; omega
      have e5 : Ex T H1 (upd H1 z (.tup [V.int n1, V.int n2])) := .new hz
      refine pair_g (sqT_of upd_same) ⟨rfl, _, rfl, _, rfl, b, _, _, 3, _, rfl, rfl, e5.sqT (e.sqT (e0.sqT hd)), rfl, rfl, _, rfl, _, _, rfl, rfl, ?_, _, _, rfl, rfl, ?_⟩
      · rw [← rf_at hn2]; exact hmul t ht'
      · rw [← rf_at hn1, ← rf_at hn2]
        exact hk _ (by rw [rf_at hn1, rf_at hn2]; exact e5)
    · intro H1 hD1 e
      have e3 : (List.range ((R.getD i []).map V.int).length).map (fun t => V.int (rf (R.getD i []) t + n * rf (R.getD j []) t)) = (addk (R.getD i []) (R.getD j []) n).map V.int := by
        rw [List.length_map]; exact addk_range n (by omega)
      rw [e3] at hD1
      refine ⟨_, _, rfl, .inl ⟨.of hD1, fun p hp => ?_⟩⟩
      have e4 : Ex T (upd H l (.lst (as.map V.ref))) (upd H1 p (.tup ((addk (R.getD i []) (R.getD j []) n).map V.int))) := e.trans (.new hp)
      have hl4 := e4.lst upd_same
      refine ⟨_, rfl, _, rfl, l, _, _, i, rfl, rfl, hl4, ixN_nat (by rw [List.length_map, hlen]; exact h1), ?_⟩
      exact ⟨_, rfl, k _ _ ((e0.trans e4).mut hl hl4 (plain_lst _)) ⟨as.set i p, .of (by rw [List.map_set]; exact upd_same), rows_upd (All2.set (row_of upd_same) i (e4.all (e0.all hrows))) hl4⟩⟩
end
end K94

set_option Elab.async false
set_option linter.all false
set_option maxRecDepth 100000
set_option maxHeartbeats 4000000
namespace K94
open PySem PySem.Spec PyProof.Rows L2
section
variable {P : Program} {w : World} {K : PySem.W.Frag} {mg : Str → Option Value} {base : Heap} {T : TabL}
/-! ### deeds done -/
structure DoneOk (m : Nat) (R : List Row) (ds : List Deed) : Prop where
  ok : ∀ d ∈ ds, DeedOk m d
  mul : ∀ i d, ds[i]? = some d → MulD (rowsD R (ds.take i)) d
theorem rowsD_take {R : List Row} {ds : List Deed} {i : Nat} {d : Deed} (h : ds[i]? = some d) : rowsD R (ds.take (i + 1)) = rowsB (rowsD R (ds.take i)) d := by
  rw [List.take_succ, h]
  exact rowsD_snoc _ _ _
def spDone (T : TabL) (K : PySem.W.Frag) : Sp := fun vs H Q _ => ∃ (a b : Addr) (as : List Addr) (m w : Nat) (R : List Row) (ds : List Deed), vs = [.ref a, .ref b] ∧ TabAt K H a w R ∧ Tab m w R ∧ SqT K H b (as.map V.ref) ∧ DeedsAt K H as ds ∧ DoneOk m R ds ∧
  m ≤ 1000 ∧ w ≤ 1000 ∧ GiveT T K H Q w (rowsD R ds)
theorem sc_done : FnScope ["table", "deeds", "rows", "deed"] ["table", "deeds"] (defScope s_done) := ⟨rfl, rfl, rfl, by decide +kernel, rfl, by decide +kernel, by decide +kernel⟩
theorem ok_done (F : Def K mg "done" s_done) (B : Bi mg) (c_look_at : C8.Cal P w K mg base 4 "look_at" (spLook T K) []) (c_rows_behind : C8.Cal P w K mg base 1 "rows_behind" (spBehind T K) []) : C8.Cal P w K mg base 5 "done" (spDone T K) [] := by
  refine F.cal sc_done (fun vs H Q E h => ?_) (fun _ _ _ _ _ _ us hl => match us, hl with | [_, _], _ => rfl) (fun f cdv A outer s H vs Q E hr h => ?_)
  · obtain ⟨a, b, as, m, w', R, ds, rfl, _⟩ := h
    rfl
  obtain ⟨a, b, as, m, w', R, ds, rfl, ⟨c, hta, rs, hrs, hrows⟩, tab, hb, hds, dok, hm, hw, k⟩ := h
  refine ⟨_,
  (pss_cons (ps_expr (C8.pe_c c_look_at hr (by decide) rfl (pa_cons (pe_callB (call_lenN K) (by rfl) B.len PySem.boot_len (pa_cons (pe_ix (ix_t K) (pv 0) pe_int (fun _ _ => rfl)) pa_nil)) (pa_cons (pv 1) pa_nil))))
  (pss_cons (ps_set (i := 2) sc_done.nd rfl (by first | exact Or.inl rfl | exact Or.inr rfl) (pe_callTy (call_lstK K) (by rfl) B.list (by decide +kernel) (pa_cons (pe_ix (ix_t K) (pv 0) pe_int (fun _ _ => rfl)) pa_nil)))
  (pss_cons (ps_for PassesOwn.never rfl (pi_tK K rfl (pv 1)) (pg_name (i := 3) sc_done.nd rfl (by first | exact Or.inl rfl | exact Or.inr rfl))
    (pss_one (ps_set (i := 2) sc_done.nd rfl (by first | exact Or.inl rfl | exact Or.inr rfl) (C8.pe_c c_rows_behind hr (by decide) rfl (pa_cons (pv 2) (pa_cons (pv 3) pa_nil))))))
  (pss_one (ps_ret (pe_tup (pa_cons (pe_ix (ix_t K) (pv 0) pe_int (fun _ _ => rfl)) (pa_cons (pe_callTy (call_tupK K) (by rfl) B.tuple (by decide +kernel) (pa_cons (pv 2) pa_nil)) pa_nil)))))))), ?_⟩
  have lr : rs.length = m := by rw [hrows.length, tab.len]
  refine ⟨_, rfl, a, _, _, 1, _, rfl, rfl, hta, rfl, rfl, c, _, m, rfl, .inr hrs, by rw [List.length_map, lr], _, rfl, m, b, as, ds, rfl, hb, hds, dok.ok, fun H1 e1 => ?_⟩
  refine ⟨_, rfl, a, _, _, 1, _, rfl, rfl, e1.sqT hta, rfl, rfl, c, _, rfl, .inr (e1.sqT hrs), fun l hl => ?_⟩
  have e2 : Ex T H (upd H1 l (.lst (rs.map V.ref))) := e1.trans (.new hl)
  refine ⟨_, rfl, b, rfl, ⟨_, e2.sqT hb⟩, for_it walk_tup (fun i σ H' => Ex T H H' ∧ ∃ p v, σ = [some (.ref a), some (.ref b), some (.ref p), v] ∧ RowsL K H' p (rowsD R (ds.take i))) ⟨e2, l, _, rfl, rs, .of upd_same, e2.all hrows⟩ (fun i σ H' _ h => h.1.sqT hb) ?_ ?_⟩
  · rintro i x σ H0 H' hi ⟨hx, p, v, rfl, hp⟩ ⟨rfl, h2⟩
    obtain ⟨q, hq, rfl⟩ := ref_get h2
    obtain ⟨d, hd, hda⟩ := hds.get hq
    have ht : Tab m w' (rowsD R (ds.take i)) := tab.rowsD fun d hd => dok.ok d (List.mem_of_mem_take hd)
    refine ⟨_, rfl, _, rfl, p, q, m, w', _, d, rfl, hp, ht, hx.sqT hda, dok.ok d (List.mem_of_getElem? hd), dok.mul i d hd, hm, hw, fun H3 p3 e3 h3 => ⟨hx.trans e3, p3, _, rfl, ?_⟩⟩
    rw [rowsD_take hd]; exact h3
  · rintro σ H' ⟨hx, p, v, rfl, hp⟩
    have el : (as.map V.ref).length = ds.length := by rw [List.length_map, hds.length]
    rw [el, List.take_length] at hp
    obtain ⟨rs2, hs2, hr2⟩ := hp
    refine ⟨_, rfl, a, _, _, 0, _, rfl, rfl, hx.sqT hta, rfl, rfl, _, rfl, p, _, rfl, .inl ⟨hs2, fun t ht => ⟨by show 2 ≤ _; decide, fun u hu => k _ _ ((hx.trans (.new ht)).trans (.new hu)) ⟨t, sqT_of upd_same, rs2, ?_, ?_⟩⟩⟩⟩
    · exact Ex.sqT (T := T) (.new hu) (sqT_of upd_same)
    · exact Ex.all (T := T) (.new hu) (Ex.all (T := T) (.new ht) hr2)
def spDeeds (T : TabL) (K : PySem.W.Frag) : Sp := fun vs H Q _ => ∃ (b : Addr) (as : List Addr) (m : Nat) (ds : List Deed), vs = [.int (m : Int), .ref b] ∧ SqT K H b (as.map V.ref) ∧ DeedsAt K H as ds ∧ DoneOk m (unitRows m) ds ∧
  m ≤ 1000 ∧ GiveT T K H Q m (rowsD (unitRows m) ds)
theorem sc_deeds_table : FnScope ["many", "deeds"] ["many", "deeds"] (defScope s_deeds_table) := ⟨rfl, rfl, rfl, by decide +kernel, rfl, by decide +kernel, by decide +kernel⟩
theorem ok_deeds_table (F : Def K mg "deeds_table" s_deeds_table) (B : Bi mg) (c_done : C8.Cal P w K mg base 5 "done" (spDone T K) []) (c_unit : C8.Cal P w K mg base 2 "unit" (spUnit T K) []) : C8.Cal P w K mg base 6 "deeds_table" (spDeeds T K) [] := by
  refine F.cal sc_deeds_table (fun vs H Q E h => ?_) (fun _ _ _ _ _ _ us hl => match us, hl with | [_, _], _ => rfl) (fun f cdv A outer s H vs Q E hr h => ?_)
  · obtain ⟨b, as, m, ds, rfl, _⟩ := h
    rfl
  obtain ⟨b, as, m, ds, rfl, hb, hds, dok, hm, k⟩ := h
  refine ⟨_,
  (pss_one (ps_ret (C8.pe_c c_done hr (by decide) rfl (pa_cons (C8.pe_c c_unit hr (by decide) rfl (pa_cons (pv 0) pa_nil)) (pa_cons (pv 1) pa_nil))))), ?_⟩
  refine ⟨_, rfl, m, rfl, hm, fun H1 p e1 h1 => ⟨_, rfl, p, b, as, m, m, unitRows m, ds, rfl, h1, unit_tab m, e1.sqT hb, e1.deeds hds, dok, hm, hm, fun H2 q e2 h2 => k _ _ (e1.trans e2) h2⟩⟩
/-! ### columns -/
theorem rows_at {H : Hp} {as : List Addr} {R : List Row} (h : All2 (RowAt K H) as R) {i : Nat} {v : V} (hv : (as.map V.ref)[i]? = some v) : ∃ a, v = .ref a ∧ RowAt K H a (R.getD i []) ∧ i < R.length := by
  obtain ⟨a, ha, rfl⟩ := ref_get hv
  obtain ⟨r, hr, hra⟩ := h.get ha
  have hi := (List.getElem?_eq_some_iff.mp hr).1
  exact ⟨a, rfl, by simpa [hr] using hra, hi⟩
def colL (R : List Row) (c : Nat) : Row := R.map fun r => rf r c
theorem rf_colL (R : List Row) (c i : Nat) : rf (colL R c) i = ent R i c := by
  unfold colL ent rf
  by_cases h : i < R.length
  · simp [h]
  · simp [h]
def spColumn (T : TabL) (K : PySem.W.Frag) : Sp := fun vs H Q _ => ∃ (a : Addr) (m w c : Nat) (R : List Row), vs = [.ref a, .int (c : Int)] ∧ TabAt K H a w R ∧ Tab m w R ∧ c < w ∧ m ≤ 1000 ∧ GiveR T K H Q (colL R c)
theorem sc_column_of : FnScope ["table", "k", "row"] ["table", "k"] (defScope s_column_of) := ⟨rfl, rfl, rfl, by decide +kernel, rfl, by decide +kernel, by decide +kernel⟩
theorem ok_column_of (F : Def K mg "column_of" s_column_of) (B : Bi mg)  : C8.Cal P w K mg base 1 "column_of" (spColumn T K) [] := by
  refine F.cal sc_column_of (fun vs H Q E h => ?_) (fun _ _ _ _ _ _ us hl => match us, hl with | [_, _], _ => rfl) (fun f cdv A outer s H vs Q E hr h => ?_)
  · obtain ⟨a, m, w', c, R, rfl, _⟩ := h
    rfl
  obtain ⟨a, m, w', c, R, rfl, ⟨b, hta, rs, hrs, hrows⟩, tab, hc, hm, k⟩ := h
  refine ⟨_,
  (pss_one (ps_ret (pe_callTy (call_tupK K) (by rfl) B.tuple (by decide +kernel) (pa_cons (pe_lc (own := [("row", 2)]) (by rfl) sc_column_of.nd (pi_tK K rfl (pe_ix (ix_t K) (pv 0) pe_int (fun _ _ => rfl))) (blkOk_by (own := [("row", 2)]) (N := ["table", "k", "row"]) (sc := defScope s_column_of) (by decide +kernel)) (fun _ _ _ _ _ => (pg_name (i := 2) sc_column_of.nd rfl (by first | exact Or.inl rfl | exact Or.inr rfl))) (fun _ _ _ _ _ => pts_nil) (fun _ _ _ _ _ => (pe_ix (ix_row K) (pv 2) (pv 1) (fun _ _ => rfl)))) pa_nil)))), ?_⟩
  have lr : rs.length = m := by rw [hrows.length, tab.len]
  refine ⟨_, rfl, a, _, _, 1, _, rfl, rfl, hta, rfl, rfl, b, rfl, ⟨_, hrs⟩, fun D hD => lc_fn (T := T) walk_tup hD (by rw [List.length_map]; omega) (fun i => V.int (ent R i c)) (fun _ e => e.sqT hrs) ?_ gmono_name ?_⟩
  · rintro i x H1 H2 hi e ⟨rfl, hx⟩ K1 hk
    obtain ⟨q, rfl, hq, hi'⟩ := rows_at (e.all hrows) hx
    exact ⟨rfl, _, rfl, _, rfl, q, _, _, c, rfl, rfl, hq, rfl, by rw [getD_len tab (by rw [← tab.len]; exact hi')]; exact hc, hk _ (.refl _)⟩
  · intro H1 hD1 e
    have e3 : (List.range (rs.map V.ref).length).map (fun i => V.int (ent R i c)) = (colL R c).map V.int := by
      rw [List.length_map, lr, ← tab.len]
      refine List.ext_getElem? fun i => ?_
      by_cases hi : i < R.length
      · rw [List.getElem?_map, List.getElem?_range hi, List.getElem?_map, rf_get (by unfold colL; rw [List.length_map]; exact hi), rf_colL]; rfl
      · rw [List.getElem?_eq_none (by simp; omega), List.getElem?_eq_none (by unfold colL; simp; omega)]
    rw [e3] at hD1
    exact ⟨_, _, rfl, .inl ⟨.of hD1, fun l hl1 => k _ _ (e.trans (.new hl1)) (row_of upd_same)⟩⟩
def overL (w : Nat) (R : List Row) : List Row := (List.range w).map (colL R)
def spOver (T : TabL) (K : PySem.W.Frag) : Sp := fun vs H Q _ => ∃ (a : Addr) (m w : Nat) (R : List Row), vs = [.ref a] ∧ TabAt K H a w R ∧ Tab m w R ∧ m ≤ 1000 ∧ w ≤ 1000 ∧ GiveT T K H Q m (overL w R)
theorem sc_turned_over : FnScope ["table", "k"] ["table"] (defScope s_turned_over) := ⟨rfl, rfl, rfl, by decide +kernel, rfl, by decide +kernel, by decide +kernel⟩
theorem ok_turned_over (F : Def K mg "turned_over" s_turned_over) (B : Bi mg) (c_column_of : C8.Cal P w K mg base 1 "column_of" (spColumn T K) []) : C8.Cal P w K mg base 2 "turned_over" (spOver T K) [] := by
  refine F.cal sc_turned_over (fun vs H Q E h => ?_) (fun _ _ _ _ _ _ us hl => match us, hl with | [_], _ => rfl) (fun f cdv A outer s H vs Q E hr h => ?_)
  · obtain ⟨a, m, w', R, rfl, _⟩ := h
    rfl
  obtain ⟨a, m, w', R, rfl, hat, tab, hm, hw, k⟩ := h
  obtain ⟨b, hta, rs, hrs, hrows⟩ := id hat
  refine ⟨_,
  (pss_one (ps_ret (pe_tup (pa_cons (pe_callB (call_lenN K) (by rfl) B.len PySem.boot_len (pa_cons (pe_ix (ix_t K) (pv 0) pe_int (fun _ _ => rfl)) pa_nil)) (pa_cons (pe_callTy (call_tupK K) (by rfl) B.tuple (by decide +kernel) (pa_cons (pe_lc (own := [("k", 1)]) (by rfl) sc_turned_over.nd (pi_rgN rfl B.range (pa_cons (pe_ix (ix_t K) (pv 0) pe_int (fun _ _ => rfl)) pa_nil)) (blkOk_by (own := [("k", 1)]) (N := ["table", "k"]) (sc := defScope s_turned_over) (by decide +kernel)) (fun _ _ _ _ _ => (pg_name (i := 1) sc_turned_over.nd rfl (by first | exact Or.inl rfl | exact Or.inr rfl))) (fun _ _ _ _ _ => pts_nil) (fun _ _ _ _ _ => (C8.pe_c c_column_of hr (by decide) rfl (pa_cons (pv 0) (pa_cons (pv 1) pa_nil))))) pa_nil)) pa_nil))))), ?_⟩
  have lr : rs.length = m := by rw [hrows.length, tab.len]
  refine ⟨_, rfl, a, _, _, 1, _, rfl, rfl, hta, rfl, rfl, b, _, m, rfl, .inr hrs, by rw [List.length_map, lr], ?_⟩
  refine ⟨_, rfl, a, _, _, 0, _, rfl, rfl, hta, rfl, rfl, _, w', rfl, rfl, by omega, fun D hD => lc_obj (T := T) (A := RowAt K) walk_N0 hD (by omega) (fun i => colL R i) (fun H H' p b h e => e.row h) (fun H p b l l' h hD => row_upd h hD) (fun _ _ => trivial) ?_ gmono_name ?_⟩
  · rintro i x H1 H2 hi e ⟨rfl, rfl⟩ K1 hk
    exact ⟨rfl, _, rfl, _, rfl, a, m, w', i, R, rfl, e.tab hat, tab, hi, hm, fun H' p e2 h => hk p H' e2 h⟩
  · intro as H1 hD1 al e
    refine ⟨_, _, rfl, .inl ⟨.of hD1, fun l hl => ⟨by show 2 ≤ _; decide, fun p hp => k _ _ ((e.trans (.new hl)).trans (.new hp)) ⟨l, sqT_of upd_same, as, ?_, ?_⟩⟩⟩⟩
    · exact Ex.sqT (T := T) (.new hp) (sqT_of upd_same)
    · exact Ex.all (T := T) (.new hp) (Ex.all (T := T) (.new hl) al)
/-! ### deeds back -/
def spContrary (T : TabL) (K : PySem.W.Frag) : Sp := fun vs H Q _ => ∃ (a : Addr) (d : Deed), vs = [.ref a] ∧ DeedAt K H a d ∧ ∀ H' p, Ex T H H' → DeedAt K H' p (invD d) → Q (.ref p) H'
theorem sc_contrary_deed : FnScope ["deed"] ["deed"] (defScope s_contrary_deed) := ⟨rfl, rfl, rfl, by decide +kernel, rfl, by decide +kernel, by decide +kernel⟩
theorem ok_contrary_deed (F : Def K mg "contrary_deed" s_contrary_deed) (B : Bi mg)  : C8.Cal P w K mg base 1 "contrary_deed" (spContrary T K) [] := by
  refine F.cal sc_contrary_deed (fun vs H Q E h => ?_) (fun _ _ _ _ _ _ us hl => match us, hl with | [_], _ => rfl) (fun f cdv A outer s H vs Q E hr h => ?_)
  · obtain ⟨a, d, rfl, _⟩ := h
    rfl
  obtain ⟨a, d, rfl, ha, k⟩ := h
  refine ⟨_,
  (pss_cons (ps_if (pt_cmpR op_eq (pe_ix (ix_t K) (pv 0) pe_int (fun _ _ => rfl)) pe_str (nomark _))
    (pss_one (ps_ret (pe_op (op_catK K) (pe_slice (sl_tK K) (pv 0) po_none (po_some pe_int)) (pe_tup (pa_cons (pe_un un_neg (pe_ix (ix_t K) (pv 0) pe_int (fun _ _ => rfl))) pa_nil)))))
    pss_nil)
  (pss_one (ps_ret (pv 0)))), ?_⟩
  cases d with
  | swap i j => exact ⟨_, rfl, a, _, _, 0, _, rfl, rfl, ha, rfl, rfl, rfl, false, by decide, iteF ⟨_, rfl, k _ _ (.refl _) ha⟩⟩
  | turn i => exact ⟨_, rfl, a, _, _, 0, _, rfl, rfl, ha, rfl, rfl, rfl, false, by decide, iteF ⟨_, rfl, k _ _ (.refl _) ha⟩⟩
  | add i j n =>
    refine ⟨_, rfl, a, _, _, 0, _, rfl, rfl, ha, rfl, rfl, rfl, true, by decide, iteT ?_⟩
    refine ⟨_, rfl, 3, rfl, a, _, rfl, ha, fun h => absurd h.2 (by show ¬ HT.sIx 4 4 (some 3) = 4; decide), fun _ p hp => ?_⟩
    refine ⟨_, rfl, a, _, _, 3, _, rfl, rfl, Ex.sqT (T := T) (.new hp) ha, rfl, rfl, n, rfl, by show 1 ≤ _; decide, fun q hq => ?_⟩
    have e3 : cutV (deedV (.add i j n)) none (some 3) = [.str "add", .int (i : Int), .int (j : Int)] := rfl
    rw [e3] at hq
    rw [e3]
    refine ⟨p, q, _, _, rfl, rfl, Ex.sqT (T := T) (.new hq) (sqT_of upd_same), sqT_of upd_same, by show 4 ≤ _; decide, fun z => absurd z (List.cons_ne_nil _ _), fun _ z => absurd z (List.cons_ne_nil _ _), fun _ _ u hu => ?_⟩
    exact k _ _ (((Ex.new hp).trans (.new hq)).trans (.new hu)) (sqT_of upd_same)
def backL (ds : List Deed) : List Deed := ds.reverse.map invD
def spBack (T : TabL) (K : PySem.W.Frag) : Sp := fun vs H Q _ => ∃ (a : Addr) (as : List Addr) (ds : List Deed), vs = [.ref a] ∧ SqT K H a (as.map V.ref) ∧ DeedsAt K H as ds ∧ ds.length ≤ 1000000 ∧
  ∀ H' p bs, Ex T H H' → SqT K H' p (bs.map V.ref) → DeedsAt K H' bs (backL ds) → Q (.ref p) H'
theorem All2.reverse {α β : Type} {Q : α → β → Prop} : ∀ {l : List α} {m : List β}, All2 Q l m → All2 Q l.reverse m.reverse
  | _, _, .nil => .nil
  | _, _, .cons p t => by
    rw [List.reverse_cons, List.reverse_cons]
    exact t.reverse.snoc p
theorem sc_led_back : FnScope ["deeds", "deed"] ["deeds"] (defScope s_led_back) := ⟨rfl, rfl, rfl, by decide +kernel, rfl, by decide +kernel, by decide +kernel⟩
theorem ok_led_back (F : Def K mg "led_back" s_led_back) (B : Bi mg) (c_contrary_deed : C8.Cal P w K mg base 1 "contrary_deed" (spContrary T K) []) : C8.Cal P w K mg base 2 "led_back" (spBack T K) [] := by
  refine F.cal sc_led_back (fun vs H Q E h => ?_) (fun _ _ _ _ _ _ us hl => match us, hl with | [_], _ => rfl) (fun f cdv A outer s H vs Q E hr h => ?_)
  · obtain ⟨a, as, ds, rfl, _⟩ := h
    rfl
  obtain ⟨a, as, ds, rfl, ha, hds, hz, k⟩ := h
  refine ⟨_,
  (pss_one (ps_ret (pe_callTy (call_tupK K) (by rfl) B.tuple (by decide +kernel) (pa_cons (pe_lc (own := [("deed", 1)]) (by rfl) sc_led_back.nd (pi_tK K rfl (pe_revT (X := _) (pv 0))) (blkOk_by (own := [("deed", 1)]) (N := ["deeds", "deed"]) (sc := defScope s_led_back) (by decide +kernel)) (fun _ _ _ _ _ => (pg_name (i := 1) sc_led_back.nd rfl (by first | exact Or.inl rfl | exact Or.inr rfl))) (fun _ _ _ _ _ => pts_nil) (fun _ _ _ _ _ => (C8.pe_c c_contrary_deed hr (by decide) rfl (pa_cons (pv 1) pa_nil)))) pa_nil)))), ?_⟩
  have hl : as.length = ds.length := hds.length
  refine ⟨_, rfl, a, _, rfl, ha, fun p hp => ⟨p, rfl, ⟨_, sqT_of upd_same⟩, fun D hD => ?_⟩⟩
  have e0 : Ex T H (upd H p (.tup (as.map V.ref).reverse)) := .new hp
  refine lc_obj (T := T) (A := DeedAt K) walk_tup hD (by simp; omega) (fun i => invD (ds.reverse.getD i (.turn 0))) (fun H H' p b h e => e.sqT h) (fun H p b l l' h hD => deed_upd h hD) (fun _ e => e.sqT (sqT_of upd_same)) ?_ gmono_name ?_
  · rintro i x H1 H2 hi e ⟨rfl, hx⟩ K1 hk
    rw [← List.map_reverse] at hx
    obtain ⟨q, hq, rfl⟩ := ref_get hx
    obtain ⟨d, hd, hda⟩ := hds.reverse.get hq
    refine ⟨rfl, _, rfl, q, d, rfl, e.sqT (e0.sqT hda), fun H' p' e2 h => hk p' H' e2 (by simpa [hd] using h)⟩
  · intro bs H1 hD1 al e
    have e3 : (List.range (as.map V.ref).reverse.length).map (fun i => invD (ds.reverse.getD i (.turn 0))) = backL ds := by
      unfold backL
      refine List.ext_getElem? fun i => ?_
      by_cases hi : i < ds.length
      · rw [List.getElem?_map, List.getElem?_range (by simp; omega), List.getElem?_map]
        simp [hi]
      · rw [List.getElem?_eq_none (by simp; omega), List.getElem?_eq_none (by simp; omega)]
    rw [e3] at al
    exact ⟨_, _, rfl, .inl ⟨.of hD1, fun l hl1 => k _ _ bs ((e0.trans e).trans (.new hl1)) (sqT_of upd_same) (Ex.deeds (T := T) (.new hl1) al)⟩⟩
theorem none_upd {H : Hp} {a p : Addr} {o : HO} (h : upd H a o p = none) : H p = none := by
  by_cases e : p = a
  · subst e; rw [upd_same] at h; cases h
  · rw [upd_ne e] at h; exact h
/-! ### a row by a table -/
def spTimes (T : TabL) (K : PySem.W.Frag) : Sp := fun vs H Q _ => ∃ (a b : Addr) (m n : Nat) (x : Row) (R : List Row), vs = [.ref a, .ref b] ∧ RowAt K H a x ∧ x.length = m ∧ TabAt K H b n R ∧ Tab m n R ∧ m ≤ 1000 ∧ n ≤ 1000 ∧
  (∀ i j, i < m → j < n → IntMulOk (rf x i) (ent R i j)) ∧ ∀ H' p y, Ex T H H' → RowAt K H' p y → y.length = n → (∀ j, j < n → rf y j = dotN (rf x) (fun i => ent R i j) m) → Q (.ref p) H'
theorem sc_row_times : FnScope ["row", "table", "found", "number", "line", "k"] ["row", "table"] (defScope s_row_times) := ⟨rfl, rfl, rfl, by decide +kernel, rfl, by decide +kernel, by decide +kernel⟩
theorem ok_row_times (F : Def K mg "row_times" s_row_times) (B : Bi mg)  : C8.Cal P w K mg base 1 "row_times" (spTimes T K) [] := by
  refine F.cal sc_row_times (fun vs H Q E h => ?_) (fun _ _ _ _ _ _ us hl => match us, hl with | [_, _], _ => rfl) (fun f cdv A outer s H vs Q E hr h => ?_)
  · obtain ⟨a, b, m, n, x, R, rfl, _⟩ := h
    rfl
  obtain ⟨a, b, m, n, x, R, rfl, hx, hxl, ⟨c, hta, rs, hrs, hrows⟩, tab, hm, hn, hmul, k⟩ := h
  refine ⟨_,
  (pss_cons (ps_set (i := 2) sc_row_times.nd rfl (by first | exact Or.inl rfl | exact Or.inr rfl) (pe_op op_rep (pe_lst (pa_cons pe_int pa_nil)) (pe_ix (ix_t K) (pv 1) pe_int (fun _ _ => rfl))))
  (pss_cons (ps_for PassesOwn.never rfl (pi_zK K rfl (by rfl) B.zip (pa_cons (pv 0) (pa_cons (pe_ix (ix_t K) (pv 1) pe_int (fun _ _ => rfl)) pa_nil))) (pg_tK K rfl (n := 2) (pgs_cons (pg_name (i := 3) sc_row_times.nd rfl (by first | exact Or.inl rfl | exact Or.inr rfl)) (pgs_cons (pg_name (i := 4) sc_row_times.nd rfl (by first | exact Or.inl rfl | exact Or.inr rfl)) pgs_nil)))
    (pss_one (ps_for PassesOwn.never rfl (pi_rgN rfl B.range (pa_cons (pe_ix (ix_t K) (pv 1) pe_int (fun _ _ => rfl)) pa_nil)) (pg_name (i := 5) sc_row_times.nd rfl (by first | exact Or.inl rfl | exact Or.inr rfl))
      (pss_one (ps_asg (pe_op op_add (pe_ix (ix_lrow K) (pv 2) (pv 5) (fun _ _ => rfl)) (pe_op op_mulB (pv 3) (pe_ix (ix_row K) (pv 4) (pv 5) (fun _ _ => rfl)))) (pg_sub (pv 2) (pv 5) set_list))))))
  (pss_one (ps_ret (pe_callTy (call_tupK K) (by rfl) B.tuple (by decide +kernel) (pa_cons (pv 2) pa_nil)))))), ?_⟩
  have lr : rs.length = m := by rw [hrows.length, tab.len]
  refine ⟨by show 1 ≤ _; decide, fun p0 hp0 => ⟨_, rfl, b, _, _, 0, _, rfl, rfl, Ex.sqT (T := T) (.new hp0) hta, rfl, rfl, p0, _, _, rfl, rfl, upd_same, by omega, by omega, sz (by simp; omega), fun p hp => ?_⟩⟩
  have fl : (List.replicate (n : Int).toNat [V.int 0]).flatten = (List.replicate n (0 : Int)).map V.int := by
    rw [Int.toNat_natCast]
    clear hmul k hn tab hta
    induction n with
    | zero => rfl
    | succ n ih => rw [List.replicate_succ, List.flatten_cons, ih, List.replicate_succ]; rfl
  rw [fl]
  have hpn : H p = none := none_upd hp
  have e0 : Ex T H (upd (upd H p0 (.lst [.int 0])) p (.lst ((List.replicate n (0 : Int)).map V.int))) := (Ex.new hp0).trans (.new hp)
  refine ⟨_, rfl, _, rfl, b, _, _, 1, _, rfl, rfl, e0.sqT hta, rfl, rfl, a, c, _, _, rfl, .inr ⟨e0.row hx, e0.sqT hrs, ?_⟩⟩
  refine for_it (walk_zipT (by rw [List.length_map, List.length_map, lr, hxl])) (fun i σ H' => Ex T H H' ∧ ∃ u v z y, σ = [some (.ref a), some (.ref b), some (.ref p), u, v, z] ∧ H' p = some (.lst (y.map V.int)) ∧ y.length = n ∧ ∀ j, j < n → rf y j = dotN (rf x) (fun i => ent R i j) i)
    ⟨e0, _, _, _, List.replicate n 0, rfl, upd_same, List.length_replicate, fun j hj => by rw [rf_zeros]; rfl⟩ (fun i σ H' _ h => ⟨h.1.row hx, h.1.sqT hrs⟩) ?_ ?_
  · rintro i v σ H0 H' hi ⟨e, u, u2, z, y, rfl, hy, hyl, hyv⟩ ⟨t, v1, v2, rfl, ht, rfl, g1, g2⟩
    obtain ⟨n1, hn1, rfl⟩ := map_get g1
    obtain ⟨q, rfl, hq, hi2⟩ := rows_at (e.all hrows) g2
    have hi3 : i < m := by rw [← tab.len]; exact hi2
    have ql := getD_len tab hi3
    have e1 : Ex T H0 (upd H0 t (.tup [V.int n1, V.ref q])) := .new ht
    refine pair_g (sqT_of upd_same) ?_
    refine ⟨_, rfl, b, _, _, 0, _, rfl, rfl, e1.sqT (e.sqT hta), rfl, rfl, _, n, rfl, rfl, by omega, ?_⟩
    refine for_it walk_N0 (fun j σ H' => Ex T H H' ∧ RowAt K H' q (R.getD i []) ∧ ∃ z y', σ = [some (.ref a), some (.ref b), some (.ref p), some (.int n1), some (.ref q), z] ∧ H' p = some (.lst (y'.map V.int)) ∧ y'.length = n ∧
      ∀ l, l < n → rf y' l = if l < j then dotN (rf x) (fun i => ent R i l) (i + 1) else rf y l)
      ⟨e.trans e1, e1.row hq, _, y, rfl, e1.lst hy, hyl, fun l _ => by rw [if_neg (by omega)]⟩ (fun _ _ _ _ _ => trivial) ?_ ?_
    · rintro j w2 σ H2 H3 hj ⟨e2, hq2, z2, y', rfl, hy', hyl', hyv'⟩ ⟨rfl, rfl⟩
      refine ⟨_, rfl, _, rfl, p, y', _, j, rfl, rfl, .of hy', rfl, by omega, _, rfl, _, rfl, _, rfl, q, _, _, j, rfl, rfl, hq2, rfl, by omega, _, _, rfl, rfl, ?_, _, _, rfl, rfl, ?_⟩
      · rw [← rf_at hn1]; exact hmul i j hi3 hj
      · refine ⟨_, rfl, _, rfl, p, _, _, j, rfl, rfl, hy', ixN_nat (by rw [List.length_map]; omega), ?_⟩
        refine ⟨e2.mut hpn hy' (plain_lst _), row_upd hq2 hy', _, y'.set j (rf y' j + n1 * rf (R.getD i []) j), rfl, by rw [List.map_set]; exact upd_same, by rw [List.length_set]; exact hyl', fun l hl => ?_⟩
        rw [rf_set]
        by_cases hlj : j = l
        · subst hlj
          rw [if_pos ⟨rfl, by omega⟩, if_pos (by omega), hyv' j hl, if_neg (by omega), hyv j hl, ← rf_at hn1]
          rfl
        · rw [if_neg (by omega), hyv' l hl]
          by_cases h2 : l < j
          · rw [if_pos h2, if_pos (by omega)]
          · rw [if_neg h2, if_neg (by omega)]
    · rintro σ H2 ⟨e2, hq2, z2, y', rfl, hy', hyl', hyv'⟩
      exact ⟨e2, _, _, _, y', rfl, hy', hyl', fun l hl => by rw [hyv' l hl, if_pos hl]⟩
  · rintro σ H' ⟨e, u, u2, z, y, rfl, hy, hyl, hyv⟩
    rw [List.length_map, hxl] at hyv
    exact ⟨_, rfl, p, _, rfl, .inl ⟨.of hy, fun l hl => k _ _ y (e.trans (.new hl)) (row_of upd_same) hyl hyv⟩⟩
end
end K94

set_option Elab.async false
set_option linter.all false
set_option maxRecDepth 100000
set_option maxHeartbeats 4000000
namespace K94
open PySem PySem.Spec PyProof.Rows L2
section
variable {P : Program} {w : World} {K : PySem.W.Frag} {mg : Str → Option Value} {base : Heap} {T : TabL}
/-! ### rows that are led by deeds: two lists of their own -/
/-- all but L and D stands -/
structure Chg (T : TabL) (L D : Addr) (H H' : Hp) : Prop where
  ext : ∀ b o, b ≠ L → b ≠ D → H b = some o → (∀ ps, o ≠ .tbl ps) → H' b = some o
  tabs : LamX.Tabs T H → LamX.Tabs T H'
section
variable {L D p a : Addr} {H H' H0 H1 H2 : Hp} {xs l : List V} {o u : HO}
theorem Chg.trans (x : Chg T L D H H1) (y : Chg T L D H1 H2) : Chg T L D H H2 := ⟨fun b o h1 h2 e n => y.ext b o h1 h2 (x.ext b o h1 h2 e n) n, fun t => y.tabs (x.tabs t)⟩
theorem Chg.of (x : Ex T H H') : Chg T L D H H' := ⟨fun b o _ _ e n => x.ext b o e n, x.tabs⟩
theorem Chg.refl (H : Hp) : Chg T L D H H := .of (.refl H)
theorem Chg.upd {H : Hp} (h : p = L ∨ p = D) (hp : H p = some u) (q : Plain u) : Chg T L D H (upd H p o) :=
  ⟨fun b v h1 h2 e _ => by rw [upd_ne (by rcases h with rfl | rfl <;> assumption)]; exact e, fun t => tabs_new t fun b v e k => by
    have nb : b ≠ p := by
      rintro rfl
      rw [hp] at e
      cases e
      rcases k with ⟨ps, k⟩ | ⟨c, z, k⟩
      · exact q.1 ps k
      · exact q.2 c z k
    rw [upd_ne nb]; exact e⟩
theorem Chg.ex (x : Ex T H0 H) (y : Chg T L D H H') (hL : H0 L = none) (hD : H0 D = none) : Ex T H0 H' :=
  ⟨fun b o e n => y.ext b o (ne_of_none e hL) (ne_of_none e hD) (x.ext b o e n) n, fun t => y.tabs (x.tabs t)⟩
theorem Chg.sqT (x : Chg T L D H H') (h : SqT K H a xs) (hL : H L = some (.lst l)) {l2 : List V} (hD : H D = some (.lst l2)) : SqT K H' a xs := by
  rcases h with (h | ⟨q, h⟩) | h
  · exact .inl (.inl (x.ext a _ (ne_of h hL (by simp)) (ne_of h hD (by simp)) h fun _ => HO.noConfusion))
  · exact .inl (.inr ⟨q, x.ext a _ (ne_of h hL (by simp)) (ne_of h hD (by simp)) h fun _ => HO.noConfusion⟩)
  · exact .inr h
end
theorem szm {n : Nat} (h : n < 1000000) : n < sizeLine := Nat.lt_of_lt_of_le h (by decide)
/-- a row that is a list of its own, apart from L and D -/
def RowIn (L D : Addr) (H : Hp) (a : Addr) (r : Row) : Prop := H a = some (.lst (r.map V.int)) ∧ a ≠ L ∧ a ≠ D
theorem Chg.rows {L D : Addr} {H H' : Hp} {as : List Addr} {R : List Row} (x : Chg T L D H H') (h : All2 (RowIn L D H) as R) : All2 (RowIn L D H') as R :=
  h.imp fun a r ⟨h1, h2, h3⟩ => ⟨x.ext a _ h2 h3 h1 fun _ => HO.noConfusion, h2, h3⟩
theorem Chg.deeds {L D : Addr} {H H' : Hp} {as : List Addr} {ds : List Deed} {l l2 : List V} (x : Chg T L D H H') (h : DeedsAt K H as ds) (hL : H L = some (.lst l)) (hD : H D = some (.lst l2)) : DeedsAt K H' as ds :=
  h.imp fun a d h => x.sqT h hL hD
/-- rows and deeds as they stand -/
structure Work (K : PySem.W.Frag) (H : Hp) (L D : Addr) (R : List Row) (ds : List Deed) : Prop where
  ne : L ≠ D
  ex : ∃ as das : List Addr, H L = some (.lst (as.map V.ref)) ∧ H D = some (.lst (das.map V.ref)) ∧ All2 (RowIn L D H) as R ∧ DeedsAt K H das ds
theorem Work.mono {H H' : Hp} {L D : Addr} {R : List Row} {ds : List Deed} (h : Work K H L D R ds) (x : Ex T H H') : Work K H' L D R ds := by
  obtain ⟨as, das, h1, h2, h3, h4⟩ := h.ex
  exact ⟨h.ne, as, das, x.lst h1, x.lst h2, (Chg.of x).rows h3, x.deeds h4⟩
theorem rowin_get {L D : Addr} {as : List Addr} {R : List Row} {H : Hp} {m w' : Nat} (h : All2 (RowIn L D H) as R) (t : Tab m w' R) {i : Nat} (hi : i < m) : ∃ a, (as.map V.ref)[i]? = some (.ref a) ∧ RowIn L D H a (R.getD i []) := by
  have hl : i < R.length := by rw [t.len]; exact hi
  have : R[i]? = some (R.getD i []) := by simp [hl]
  obtain ⟨a, ha, hr⟩ := h.get' this
  exact ⟨a, by rw [List.getElem?_map, ha]; rfl, hr⟩
def spLeadOn (T : TabL) (K : PySem.W.Frag) : Sp := fun vs H Q _ => ∃ (L D b : Addr) (m w : Nat) (R : List Row) (ds : List Deed) (d : Deed), vs = [.ref L, .ref D, .ref b] ∧ Work K H L D R ds ∧ Tab m w R ∧ DeedAt K H b d ∧ DeedOk m d ∧ MulD R d ∧ m ≤ 1000 ∧ w ≤ 1000 ∧ ds.length < 1000000 ∧
  ∀ H', Chg T L D H H' → Work K H' L D (rowsB R d) (ds ++ [d]) → Q .non H'
theorem sc_lead_on : FnScope ["rows", "deeds", "deed", "at", "number", "other"] ["rows", "deeds", "deed"] (defScope s_lead_on) := ⟨rfl, rfl, rfl, by decide +kernel, rfl, by decide +kernel, by decide +kernel⟩
theorem ok_lead_on (F : Def K mg "lead_on" s_lead_on) (B : Bi mg)  : C8.Cal P w K mg base 1 "lead_on" (spLeadOn T K) [] := by
  refine F.cal sc_lead_on (fun vs H Q E h => ?_) (fun _ _ _ _ _ _ us hl => match us, hl with | [_, _, _], _ => rfl) (fun f cdv A outer s H vs Q E hr h => ?_)
  · obtain ⟨L, D, b, m, w', R, ds, d, rfl, _⟩ := h
    rfl
  obtain ⟨L, D, b, m, w', R, ds, d, rfl, ⟨hne, as, das, hL, hD, hrows, hds⟩, tab, hd, hok, hmul, hm, hw, hz, k⟩ := h
  refine ⟨_,
  (pss_cons (ps_expr (pe_bm PySem.F.plainAttrs_list PySem.F.slot_list_append PySem.F.type_list_append mt_append (pv 1) (pa_cons (pv 2) pa_nil)))
  (pss_cons (ps_set (i := 3) sc_lead_on.nd rfl (by first | exact Or.inl rfl | exact Or.inr rfl) (pe_ix (ix_t K) (pv 2) pe_int (fun _ _ => rfl)))
  (pss_one (ps_if (pt_cmpR op_eq (pe_ix (ix_t K) (pv 2) pe_int (fun _ _ => rfl)) pe_str (nomark _))
    (pss_one (ps_asg (pe_tup (pa_cons (pe_ix (ix_l K) (pv 0) (pe_ix (ix_t K) (pv 2) pe_int (fun _ _ => rfl)) (fun _ _ => rfl)) (pa_cons (pe_ix (ix_l K) (pv 0) (pv 3) (fun _ _ => rfl)) pa_nil))) (pg_tK K rfl (n := 2) (pgs_cons (pg_sub (pv 0) (pv 3) set_list) (pgs_cons (pg_sub (pv 0) (pe_ix (ix_t K) (pv 2) pe_int (fun _ _ => rfl)) set_list) pgs_nil)))))
    (pss_one (ps_if (pt_cmpR op_eq (pe_ix (ix_t K) (pv 2) pe_int (fun _ _ => rfl)) pe_str (nomark _))
      (pss_one (ps_asg (pe_lc (own := [("number", 4)]) (by rfl) sc_lead_on.nd (pi_lK K rfl (pe_ix (ix_l K) (pv 0) (pv 3) (fun _ _ => rfl))) (blkOk_by (own := [("number", 4)]) (N := ["rows", "deeds", "deed", "at", "number", "other"]) (sc := defScope s_lead_on) (by decide +kernel)) (fun _ _ _ _ _ => (pg_name (i := 4) sc_lead_on.nd rfl (by first | exact Or.inl rfl | exact Or.inr rfl))) (fun _ _ _ _ _ => pts_nil) (fun _ _ _ _ _ => (pe_op op_sub pe_int (pv 4)))) (pg_sub (pv 0) (pv 3) set_list)))
      (pss_one (ps_asg (pe_lc (own := [("number", 4), ("other", 5)]) (by rfl) sc_lead_on.nd (pi_zK K rfl (by rfl) B.zip (pa_cons (pe_ix (ix_l K) (pv 0) (pv 3) (fun _ _ => rfl)) (pa_cons (pe_ix (ix_l K) (pv 0) (pe_ix (ix_t K) (pv 2) pe_int (fun _ _ => rfl)) (fun _ _ => rfl)) pa_nil))) (blkOk_by (own := [("number", 4), ("other", 5)]) (N := ["rows", "deeds", "deed", "at", "number", "other"]) (sc := defScope s_lead_on) (by decide +kernel)) (fun _ _ _ _ _ => (pg_tK K rfl (n := 2) (pgs_cons (pg_name (i := 4) sc_lead_on.nd rfl (by first | exact Or.inl rfl | exact Or.inr rfl)) (pgs_cons (pg_name (i := 5) sc_lead_on.nd rfl (by first | exact Or.inl rfl | exact Or.inr rfl)) pgs_nil)))) (fun _ _ _ _ _ => pts_nil) (fun _ _ _ _ _ => (pe_op op_add (pv 4) (pe_op op_mulB (pe_ix (ix_t K) (pv 2) pe_int (fun _ _ => rfl)) (pv 5))))) (pg_sub (pv 0) (pv 3) set_list))))))))), ?_⟩
  have hlen : as.length = m := by rw [hrows.length, tab.len]
  have dl : das.length = ds.length := hds.length
  refine ⟨_, rfl, .inl ⟨rfl, _, .inl (.inl hD)⟩, _, rfl, D, _, _, rfl, rfl, hD, szm (by rw [List.length_map]; omega), ?_⟩
  have c0 : Chg T L D H (upd H D (.lst (das.map V.ref ++ [.ref b]))) := .upd (.inr rfl) hD (plain_lst _)
  have hL0 : upd H D (.lst (das.map V.ref ++ [.ref b])) L = some (.lst (as.map V.ref)) := by rw [upd_ne hne]; exact hL
  have hD0 : upd H D (.lst (das.map V.ref ++ [.ref b])) D = some (.lst ((das ++ [b]).map V.ref)) := by rw [List.map_append]; exact upd_same
  have hds0 : DeedsAt K (upd H D (.lst (das.map V.ref ++ [.ref b]))) (das ++ [b]) (ds ++ [d]) := c0.deeds (All2.snoc hd hds) hL hD
  have hrows0 := c0.rows hrows
  have hd0 := c0.sqT hd hL hD
  generalize upd H D (.lst (das.map V.ref ++ [.ref b])) = H0 at *
  cases d with
  | turn i =>
    have hi : i < m := hok
    obtain ⟨c, hc, hcr⟩ := rowin_get hrows0 tab hi
    refine ⟨_, rfl, b, _, _, 1, _, rfl, rfl, hd0, rfl, rfl, ?_⟩
    refine ⟨_, rfl, b, _, _, 0, _, rfl, rfl, hd0, rfl, rfl, rfl, false, by decide, iteF ?_⟩
    refine ⟨_, rfl, b, _, _, 0, _, rfl, rfl, hd0, rfl, rfl, rfl, true, by decide, iteT ?_⟩
    refine ⟨_, rfl, _, rfl, L, _, _, i, _, rfl, rfl, .of hL0, rfl, hc, c, rfl, ⟨_, .of hcr.1⟩, fun E' hE => ?_⟩
    refine lc_fn (T := T) walk_list hE (by rw [List.length_map, getD_len tab hi]; omega) (fun t => V.int (- rf (R.getD i []) t)) (fun _ e => .of (e.lst hcr.1)) ?_ gmono_name ?_
    · rintro t x H1 H2 ht e ⟨rfl, hx⟩ K1 hk
      obtain ⟨n, hn, rfl⟩ := map_get hx
      rw [← rf_at hn]
      refine ⟨rfl, _, rfl, _, _, rfl, rfl, ?_⟩
      show K1 (.int (0 - rf (R.getD i []) t)) H2
      rw [Int.zero_sub]
      exact hk _ (.refl _)
    · intro H1 hE1 e
      have e3 : (List.range ((R.getD i []).map V.int).length).map (fun t => V.int (- rf (R.getD i []) t)) = ((R.getD i []).map fun x => -x).map V.int := by
        refine List.ext_getElem? fun t => ?_
        by_cases ht : t < (R.getD i []).length
        · rw [List.getElem?_map, List.getElem?_range (by rw [List.length_map]; exact ht), List.getElem?_map, List.getElem?_map, rf_get ht]; rfl
        · rw [List.getElem?_eq_none (by simp at ht ⊢; omega), List.getElem?_eq_none (by simp at ht ⊢; omega)]
      rw [e3] at hE1
      have hL1 := e.lst hL0
      have hD1 := e.lst hD0
      refine ⟨_, rfl, _, rfl, L, _, _, i, rfl, rfl, hL1, ixN_nat (by rw [List.length_map, hlen]; exact hi), ?_⟩
      have c1 : Chg T L D H1 (upd H1 L (.lst ((as.map V.ref).set i (.ref E')))) := .upd (.inl rfl) hL1 (plain_lst _)
      refine k _ ((c0.trans (.of e)).trans c1) ⟨hne, as.set i E', das ++ [b], by rw [List.map_set]; exact upd_same, by rw [upd_ne hne.symm]; exact hD1, c1.rows (All2.set ⟨hE1, (ne_of_none hL0 hE).symm, (ne_of_none hD0 hE).symm⟩ i ((Chg.of e).rows hrows0)), c1.deeds (e.deeds hds0) hL1 hD1⟩
  | swap i j =>
    obtain ⟨h1, h2, h3⟩ := hok
    obtain ⟨c, hc, hcr⟩ := rowin_get hrows0 tab h1
    obtain ⟨c2, hc2, hcr2⟩ := rowin_get hrows0 tab h2
    refine ⟨_, rfl, b, _, _, 1, _, rfl, rfl, hd0, rfl, rfl, ?_⟩
    refine ⟨_, rfl, b, _, _, 0, _, rfl, rfl, hd0, rfl, rfl, rfl, true, by decide, iteT ?_⟩
    refine ⟨_, rfl, _, rfl, b, _, _, 2, _, rfl, rfl, hd0, rfl, rfl, L, _, _, j, _, rfl, rfl, .of hL0, rfl, hc2, ?_⟩
    refine ⟨_, rfl, _, rfl, L, _, _, i, _, rfl, rfl, .of hL0, rfl, hc, by show 2 ≤ _; decide, fun q hq => ?_⟩
    have e0 : Ex T H0 (upd H0 q (.tup [V.ref c2, V.ref c])) := .new hq
    refine ⟨q, _, rfl, sqT_of upd_same, rfl, _, _, rfl, ?_⟩
    have hL1 := e0.lst hL0
    have hD1 := e0.lst hD0
    have hds1 := e0.deeds hds0
    have hrows1 := (Chg.of (L := L) (D := D) e0).rows hrows0
    have hd1 := e0.sqT hd0
    have q1 : RowIn L D (upd H0 q (.tup [V.ref c2, V.ref c])) c (R.getD i []) := ⟨e0.lst hcr.1, hcr.2⟩
    have q2 : RowIn L D (upd H0 q (.tup [V.ref c2, V.ref c])) c2 (R.getD j []) := ⟨e0.lst hcr2.1, hcr2.2⟩
    have c1 := c0.trans (.of e0)
    generalize upd H0 q (.tup [V.ref c2, V.ref c]) = H1 at *
    refine ⟨_, rfl, _, rfl, L, _, _, i, rfl, rfl, hL1, ixN_nat (by rw [List.length_map, hlen]; exact h1), ?_⟩
    have c2' : Chg T L D H1 (upd H1 L (.lst ((as.map V.ref).set i (.ref c2)))) := .upd (.inl rfl) hL1 (plain_lst _)
    refine ⟨_, _, rfl, ?_⟩
    refine ⟨_, rfl, _, rfl, b, _, _, 2, _, rfl, rfl, c2'.sqT hd1 hL1 hD1, rfl, rfl, L, _, _, j, rfl, rfl, upd_same, ixN_nat (by rw [List.length_set, List.length_map, hlen]; exact h2), ?_⟩
    rw [upd_upd]
    have c3 : Chg T L D H1 (upd H1 L (.lst (((as.map V.ref).set i (.ref c2)).set j (.ref c)))) := .upd (.inl rfl) hL1 (plain_lst _)
    refine ⟨rfl, k _ (c1.trans c3) ⟨hne, (as.set i c2).set j c, das ++ [b], by rw [List.map_set, List.map_set]; exact upd_same, by rw [upd_ne hne.symm]; exact hD1, c3.rows ?_, c3.deeds hds1 hL1 hD1⟩⟩
    exact All2.set q1 j (All2.set q2 i hrows1)
  | add i j n =>
    obtain ⟨h1, h2, h3⟩ := hok
    obtain ⟨c, hc, hcr⟩ := rowin_get hrows0 tab h1
    obtain ⟨c2, hc2, hcr2⟩ := rowin_get hrows0 tab h2
    have l1 := getD_len tab h1
    have l2 := getD_len tab h2
    refine ⟨_, rfl, b, _, _, 1, _, rfl, rfl, hd0, rfl, rfl, ?_⟩
    refine ⟨_, rfl, b, _, _, 0, _, rfl, rfl, hd0, rfl, rfl, rfl, false, by decide, iteF ?_⟩
    refine ⟨_, rfl, b, _, _, 0, _, rfl, rfl, hd0, rfl, rfl, rfl, false, by decide, iteF ?_⟩
    refine ⟨_, rfl, _, rfl, L, _, _, i, _, rfl, rfl, .of hL0, rfl, hc, _, rfl, _, rfl, b, _, _, 2, _, rfl, rfl, hd0, rfl, rfl, L, _, _, j, _, rfl, rfl, .of hL0, rfl, hc2, ?_⟩
    refine ⟨c, c2, _, _, rfl, .inl ⟨.of hcr.1, .of hcr2.1, fun E' hE => ?_⟩⟩
    refine lc_fn (T := T) (walk_zip (n := w') (by rw [List.length_map, List.length_map, l1, l2]; omega)) hE (by omega) (fun t => V.int (rf (R.getD i []) t + n * rf (R.getD j []) t)) (fun _ e => ⟨.of (e.lst hcr.1), .of (e.lst hcr2.1)⟩) ?_ gmono_two ?_
    · rintro t x H1 H2 ht e ⟨z, y1, y2, rfl, hz, rfl, g1, g2⟩ K1 hk
      obtain ⟨n1, hn1, rfl⟩ := map_get g1
      obtain ⟨n2, hn2, rfl⟩ := map_get g2
      have ht' : t < (R.getD j []).length := by omega
      have e5 : Ex T H1 (upd H1 z (.tup [V.int n1, V.int n2])) := .new hz
      refine pair_g (sqT_of upd_same) ⟨rfl, _, rfl, _, rfl, b, _, _, 3, _, rfl, rfl, e5.sqT (e.sqT hd0), rfl, rfl, _, rfl, _, _, rfl, rfl, ?_, _, _, rfl, rfl, ?_⟩
      · rw [← rf_at hn2]; exact hmul t ht'
      · rw [← rf_at hn1, ← rf_at hn2]
        exact hk _ (by rw [rf_at hn1, rf_at hn2]; exact e5)
    · intro H1 hE1 e
      have e3 : (List.range w').map (fun t => V.int (rf (R.getD i []) t + n * rf (R.getD j []) t)) = (addk (R.getD i []) (R.getD j []) n).map V.int := by
        rw [← addk_range n (by omega), l1]
      rw [e3] at hE1
      have hL1 := e.lst hL0
      have hD1 := e.lst hD0
      refine ⟨_, rfl, _, rfl, L, _, _, i, rfl, rfl, hL1, ixN_nat (by rw [List.length_map, hlen]; exact h1), ?_⟩
      have c1 : Chg T L D H1 (upd H1 L (.lst ((as.map V.ref).set i (.ref E')))) := .upd (.inl rfl) hL1 (plain_lst _)
      refine k _ ((c0.trans (.of e)).trans c1) ⟨hne, as.set i E', das ++ [b], by rw [List.map_set]; exact upd_same, by rw [upd_ne hne.symm]; exact hD1, c1.rows (All2.set ⟨hE1, (ne_of_none hL0 hE).symm, (ne_of_none hD0 hE).symm⟩ i ((Chg.of e).rows hrows0)), c1.deeds (e.deeds hds0) hL1 hD1⟩
end
end K94

set_option Elab.async false
set_option linter.all false
set_option maxRecDepth 100000
set_option maxHeartbeats 4000000
/-! L4: a lambda of one parameter as the key of min and sorted. -/
namespace K94
open PySem PySem.Spec PyProof.Rows L2
/-- one parameter, captured names, globals -/
structure LamP (sc scope : Scope) (prm : Str) : Prop where
  kind : scope.kind = .function
  co : scope.isCoroutine = false
  gen : scope.isGenerator = false
  cell : ∀ y ∈ scope.names, y.2 ≠ .cell
  par : scope.names.lookup prm = some .local
  free : ∀ y ∈ scope.names, y.2 = .free → sc.names.lookup y.1 = some .cell ∨ sc.names.lookup y.1 = some .free
section
variable {X : Cx} {pins : List (Addr × Obj)} {σ : L2.St} {H : Hp} {s : Shared} {scope : Scope} {prm : Str}
theorem LamP.has (L : LamP X.env.scope scope prm) (ok : X.Ok) : ∀ y ∈ scope.names, y.2 = .free → ∃ c, X.env.cells.lookup y.1 = some c := fun y hy e => by
  rcases L.free y hy e with k | k
  · exact ok.has _ (.inl k)
  · exact ok.has _ (.inr k)
/-- a captured name's cell, as the lambda sees it -/
theorem lam_free (I : Inv X pins σ H s) (L : LamP X.env.scope scope prm) {y : Str} {i : Nat} {v : V} (hy : scope.names.lookup y = some .free) (hN : X.N[i]? = some y) (hv : σ[i]? = some (some v)) :
    ∃ c u, (cloFrom X.env.cells scope.names []).lookup y = some c ∧ RelV v u ∧ s.heap.IsCell c (some u) ∧ c ≠ X.env.locals := by
  have hm : (y, NameKind.free) ∈ scope.names := PySem.mem_of_lookup hy
  obtain ⟨c, hc⟩ := mem_lookup (cloFrom_has (cells := X.env.cells) (acc := []) hm)
  have hcX : X.env.cells.lookup y = some c := by
    rcases cloFrom_mem (PySem.mem_of_lookup hc) with hm | ⟨h1, h2⟩
    · cases hm
    · obtain ⟨c1, hc1⟩ := L.has I.ok _ h1 rfl
      have hc1 : X.env.cells.lookup y = some c1 := hc1
      have e2 : c = c1 := by rw [h2, hc1] <;> rfl
      rw [e2]; exact hc1
  obtain ⟨m, hn, hl⟩ := I.loc
  have hvis : Vis X.env.scope y := (L.free _ hm rfl).elim (fun k => .inr (.inl k)) (fun k => .inr (.inr k))
  obtain ⟨u, r, q⟩ := hl i y v hN hv hvis
  refine ⟨c, u, hc, r, ?_, I.cne y c hcX⟩
  rcases q with ⟨k', _⟩ | ⟨_, c3, e', z⟩
  · have k' : X.env.scope.names.lookup y = some .local := k'
    rcases L.free _ hm rfl with k2 | k2 <;> rw [show X.env.scope.names.lookup y = _ from k2] at k' <;> cases k'
  · rw [hcX] at e'
    cases e'
    exact z
abbrev lamE (X : Cx) (scope : Scope) (L f c' : Addr) : Env := PySem.W.envX (X.env.qual ++ "<lambda>") scope L f (.ref c') (cloFrom X.env.cells scope.names [])
/-- all but the frame's own object stands -/
def Stay (L : Addr) (h h' : Heap) : Prop := ∀ b o, b ≠ L → h.get? b = some o → h'.get? b = some o
def All_ (h h' : Heap) : Prop := ∀ b o, h.get? b = some o → h'.get? b = some o
theorem base_ne (I : Inv X pins σ H s) {b : Addr} {o : Obj} (e : X.base.get? b = some o) : b ≠ X.env.locals :=
  Nat.ne_of_lt (Nat.lt_of_lt_of_le (Heap.lt_size e) (Nat.le_trans I.ok.bsz I.ok.above))
theorem base_stay (I : Inv X pins σ H s) {h : Heap} (ke : Stay X.env.locals s.heap h) : All_ X.base h := fun b o e => ke b o (base_ne I e) (I.bk b o e)
/-- the lambda called: the heap stands, the frame is new -/
theorem lam_turn {f c' : Addr} {pm ctv : Value} {params : Arguments} {body : Expr} (I : Inv X pins σ H s) (LP : LamP X.env.scope scope prm)
    (hf : s.heap.get? f = some (PySem.W.kla_obj "<lambda>" (X.env.qual ++ "<lambda>") params body scope (cloFrom X.env.cells scope.names []) pm c' ctv)) (hfL : f ≠ X.env.locals)
    (hc : ∃ (oc : Obj) (vs : Array Value) (t : Tok), s.heap.get? c' = some oc ∧ oc.data = .fields vs ∧ vs[1]? = some (.str (X.env.qual ++ "<lambda>") t)) (hcL : c' ≠ X.env.locals)
    {A : Around} (hr : A.depth < recursionLimit) {h : Heap} {tk : Nat} {v : Value} (ke : Stay X.env.locals s.heap h) (R : Value → Prop)
    (hbind : bindArgs (PySem.W.kla_fn "<lambda>" (X.env.qual ++ "<lambda>") params body scope (cloFrom X.env.cells scope.names []) pm (.ref c') ctv) ⟨[v], []⟩ = pure [(prm, v)])
    (hbody : ∀ (L : Addr) (h₁ : Heap) (tk1 : Nat), All_ h h₁ → h₁.Ns L (fun x => ([(prm, v)] : List (Str × Value)).reverse.lookup x) → ∀ (E : Value → Shared → Prop) (Q : Value → Shared → Prop),
      (∀ val tk2, R val → Q val { s with heap := h₁, toks := tk2 }) → wpAny (model X.prog X.w) (A.deeper (lamE X scope L f c')) (eval body (lamE X scope L f c')) Q E { s with heap := h₁, toks := tk1 }) :
    wpAny (model X.prog X.w) A (call (.ref f) [v]) (fun val s2 => ∃ h' tk', s2 = { s with heap := h', toks := tk' } ∧ All_ h h' ∧ R val) (fun _ _ => False) { s with heap := h, toks := tk } := by
  have of1 := ke f _ hfL hf
  obtain ⟨oc, vs, t, hoc, hdc, hvc⟩ := hc
  have lim : h.NoLimit := I.mod.nolimit.keeps (base_stay I ke)
  have rc : codeAny (model X.prog X.w) A (.call (.ref f) ⟨[v], []⟩) (fun r s2 => ∃ val h' tk', r = .ok (.ret val) ∧ s2 = { s with heap := h', toks := tk' } ∧ All_ h h' ∧ R val) { s with heap := h, toks := tk } := by
    refine PySem.W.kla_callFunE (s := { s with heap := h, toks := tk }) hr of1 rfl LP.co LP.gen rfl ⟨c', oc, vs, t, rfl, ke c' _ hcL hoc, hdc, hvc⟩ ?_
    rw [hbind]
    refine wpAny_pure (wpAny_newFunctionEnv (fun y hy => LP.cell y hy) (fun y hy => ?_) (fun h₁ hns hsb => ⟨lim.fresh _ hsb, ?_⟩) LP.kind)
    · have : y = (prm, v) := by simpa using hy
      rw [this]; exact LP.par
    · have kp : All_ h h₁ := fun b o e => hsb.extBut b o (Nat.ne_of_lt (Heap.lt_size e)) (Heap.get?_push_of_some _ e)
      exact PySem.W.kla_codeExpr (hbody h.objs.size h₁ _ kp hns _ _ fun val tk2 hR => ⟨val, h₁, tk2, rfl, rfl, kp, hR⟩)
  refine wpAny_call (codeAny_mono rc fun r s' hq => ?_)
  obtain ⟨val, h', tk', rfl, rfl, k, hR⟩ := hq
  exact ⟨h', tk', rfl, k, hR⟩
end
def lampB (sc scope : Scope) (prm : Str) : Bool :=
  decide (scope.kind = .function) && !scope.isCoroutine && !scope.isGenerator && decide (scope.names.lookup prm = some .local) && scope.names.all fun y => !decide (y.2 = .cell) && (!decide (y.2 = .free) || decide (sc.names.lookup y.1 = some .cell) || decide (sc.names.lookup y.1 = some .free))
theorem lamP_by {sc scope : Scope} {prm : Str} (h : lampB sc scope prm = true) : LamP sc scope prm := by
  unfold lampB at h
  simp only [Bool.and_eq_true, Bool.or_eq_true, Bool.not_eq_true', decide_eq_true_eq, decide_eq_false_iff_not, List.all_eq_true] at h
  obtain ⟨⟨⟨⟨h1, h2⟩, h3⟩, h4⟩, h5⟩ := h
  refine ⟨h1, h2, h3, fun y hy => (h5 y hy).1, h4, fun y hy e => ?_⟩
  rcases (h5 y hy).2 with (z | z) | z
  · exact absurd e z
  · exact .inl z
  · exact .inr z
/-! ### the body's parts -/
section
variable {prog : Program} {w : World} {A : Around} {env : Env} {E : Value → Shared → Prop} {s : Shared}
theorem raw_abs {arg : Expr} {p pos : Pos} {mg mb : Str → Option Value} {Q : Value → Shared → Prop} (hk : env.scope.kind = .function) (hx : env.kindOf "abs" = some .globalImplicit) (hg : s.heap.Ns env.globals mg) (hm : mg "abs" = none)
    (hb : s.heap.Ns env.builtins mb) (hv : mb "abs" = some (.builtin "abs")) (ha : wpAny (model prog w) A (eval arg env) (fun v s1 => ∃ i t, v = .int i t ∧ ∀ u tk, Q (.int (if i < 0 then -i else i) u) { s1 with toks := tk }) E s)
    (hst : starEach [arg] env = (false, eval arg env) :: starEach [] env := by rfl) : wpAny (model prog w) A (eval (.Call (.Name "abs" p) [arg] [] pos) env) Q E s := by
  refine wpAny_Call_Name_kw (Calls.Name_function_global hk hx (Calls.loadGlobal_builtin hg hm hb hv ?_) (by decide))
  refine PyProof.Rows.callWith_builtin1 ?_ hst (by rfl)
  rw [hst]
  show wpAny _ _ (spliced ((false, eval arg env) :: backTo pos (starEach [] env))) _ _ s
  refine Calls.spliced_cons (wpAny_mono ha (fun v s1 ⟨i, t, e, q⟩ => Calls.spliced_nil ?_) fun _ _ x => x)
  subst e
  exact call_abs_int q
theorem raw_ixL {a b : Expr} {pos : Pos} {Q : Value → Shared → Prop} (hs : PlainIx b)
    (h : wpAny (model prog w) A (eval a env) (fun o s1 => wpAny (model prog w) A (eval b env) (fun i s2 => ∃ l items k t x, o = .ref l ∧ i = .int k t ∧ s2.heap.IsList l items ∧ 0 ≤ k ∧ k < 2 ^ 63 ∧ items[k.toNat]? = some x ∧ Q x s2) E s1) E s) :
    wpAny (model prog w) A (eval (.Subscript a b pos) env) Q E s := by
  refine Subscript_ (wpAny_mono h (fun o s1 h1 => wpAny_mono h1 (fun i s2 ⟨l, items, k, t, x, e1, e2, hl, h0, hk, hx, q⟩ => ?_) fun _ _ x => x) fun _ _ x => x)
  subst e1 e2
  exact item_listR hl h0 hk hx q (hs _ _)
theorem raw_ixT {a b : Expr} {pos : Pos} {Q : Value → Shared → Prop} (hs : PlainIx b)
    (h : wpAny (model prog w) A (eval a env) (fun o s1 => wpAny (model prog w) A (eval b env) (fun i s2 => ∃ l items k t j x, o = .ref l ∧ i = .int k t ∧ IsTup s2.heap l items ∧ 0 ≤ k ∧ k < 2 ^ 63 ∧ seqIndex? k items.size = some j ∧ items[j]? = some x ∧ Q x s2) E s1) E s) :
    wpAny (model prog w) A (eval (.Subscript a b pos) env) Q E s := by
  refine Subscript_ (wpAny_mono h (fun o s1 h1 => wpAny_mono h1 (fun i s2 ⟨l, items, k, t, j, x, e1, e2, hl, h0, hk, hj, hx, q⟩ => ?_) fun _ _ x => x) fun _ _ x => x)
  subst e1 e2
  exact subscriptTail_builtinR (x := x) hl.typeIs slot_tuple_getitem.lookup (PyProof.Rows.getItem_tuple (j := j) (Q := fun r s' => r = x ∧ Q r s') hl (by omega) hk hj hx ⟨rfl, q⟩) (hs _ _)
theorem raw_local {x : Str} {pos : Pos} {m : Str → Option Value} {v : Value} {Q : Value → Shared → Prop} (hk : env.scope.kind = .function) (hl : env.kindOf x = some .local) (hn : s.heap.Ns env.locals m) (hv : m x = some v) (q : Q v s)
    (hd : (x == ("__debug__" : Str)) = false := by decide) : wpAny (model prog w) A (eval (.Name x pos) env) Q E s := wpAny_Name (wpAny_loadName_local hk hl hn hv q) hd
theorem raw_free {x : Str} {pos : Pos} {c : Addr} {v : Value} {Q : Value → Shared → Prop} (hk : env.scope.kind = .function) (hl : env.kindOf x = some .free) (hc : env.cells.lookup x = some c) (hv : s.heap.IsCell c (some v)) (q : Q v s)
    (hd : (x == ("__debug__" : Str)) = false := by decide) (hcd : (x == ("__classdict__" : Str)) = false := by decide) : wpAny (model prog w) A (eval (.Name x pos) env) Q E s := wpAny_Name (wpAny_loadName_free hk hl hc hv q hcd) hd
end
/-! ### behind the loop -/
section
variable {X : Cx} {pins : List (Addr × Obj)} {σ : L2.St} {H : Hp} {s : Shared}
theorem ns_inj {h : Heap} {a : Addr} {m m' : Str → Option Value} (x : h.Ns a m) (y : h.Ns a m') : m = m' := by
  obtain ⟨o, es, ep, e, d, _, f⟩ := x
  obtain ⟨o', es', ep', e', d', _, f'⟩ := y
  rw [e] at e'; cases e'
  rw [d] at d'; cases d'
  exact funext fun n => (f n).symm.trans (f' n)
/-- behind a rule over Fr and News: all stands -/
theorem inv_frame {h' : Heap} {m : Str → Option Value} {t' : Nat} (I : Inv X pins σ H s) (hn : s.heap.Ns X.env.locals m) (F : Fr X.base X.env.locals h' m) (N : News X.base X.env.locals h' (allNews X.base s.heap X.env.locals)) :
    Inv X pins σ H { s with heap := h', toks := t' } := by
  have k : ∀ b o, b ≠ X.env.locals → s.heap.get? b = some o → h'.get? b = some o := fun b o h1 e => by
    cases q : X.base.get? b with
    | some u =>
      have := I.bk b u q
      rw [e] at this; cases this
      exact F.keep b _ q
    | none => exact (N (b, o) (mem_allNews h1 q e)).1
  refine I.step (g' := s.gens) (d' := s.drawn) (ch := []) (fun b hb => absurd hb (by simp)) (fun b o hL _ _ e _ => k b o hL e) (fun b o hL _ _ e _ => ⟨o.slots, k b o hL e⟩) (fun _ _ _ _ n => n) (fun b o _ e => ?_)
    (fun _ _ e => e) (fun _ _ _ e => e) (fun b ps e => ⟨#[], by rw [e]; simp⟩) (fun m' hm' => ns_inj hn hm' ▸ F.ns) (fun b u e => ?_) I.bare
  · by_cases hb : b = X.env.locals
    · subst hb
      obtain ⟨o', _, _, e', _⟩ := F.ns
      exact ⟨o', e'⟩
    · exact ⟨o, k b o hb e⟩
  · refine (I.hok b u e).stay (fun c v hc q => k c v ?_ q) (fun _ q => q) fun _ _ q => q
    rintro rfl
    rcases hc with z | z
    · rw [← z] at e; rw [I.free] at e; cases e
    · rw [I.free] at z; cases z
end
/-! ### min(l, key=lambda a: abs(rows[a][column])) -/
def tMinRow (T : TabL) (K : PySem.W.Frag) (ir ic : Nat) (te : TE) : TE := fun σ H Q => te σ H fun x H1 => ∃ (p L : Addr) (ats : List Nat) (as : List Addr) (R : List Row) (c : Nat), x = .ref p ∧ H1 p = some (.lst (ats.map fun (a : Nat) => V.int (a : Int))) ∧
  σ[ir]? = some (some (.ref L)) ∧ σ[ic]? = some (some (.int (c : Int))) ∧ H1 L = some (.lst (as.map V.ref)) ∧ All2 (fun a r => H1 a = some (.lst (r.map V.int))) as R ∧ ats ≠ [] ∧ (∀ a ∈ ats, a < R.length ∧ c < (R.getD a []).length) ∧ LamX.Tabs T H1 ∧
  ∀ H2 l, Ex T H1 H2 → l ∈ ats → (∀ a ∈ ats, (ent R l c).natAbs ≤ (ent R a c).natAbs) → Q (.int (l : Int)) H2
section
variable {X : Cx} {pins : List (Addr × Obj)} {σ : L2.St} {H : Hp} {s : Shared}
theorem list_stay {L p : Addr} {h h' : Heap} {items : Array Value} (k : Stay L h h') (hl : h.IsList p items) (n : p ≠ L) : h'.IsList p items := by
  obtain ⟨o, ho, r⟩ := hl
  exact ⟨o, k p o n ho, r⟩
theorem tup_stay {L p : Addr} {h h' : Heap} {items : Array Value} (k : Stay L h h') (hl : IsTup h p items) (n : p ≠ L) : IsTup h' p items := by
  obtain ⟨o, ho, r⟩ := hl
  exact ⟨o, k p o n ho, r⟩
theorem cell_stay {L c : Addr} {h h' : Heap} {v : Option Value} (k : Stay L h h') (hl : h.IsCell c v) (n : c ≠ L) : h'.IsCell c v := by
  obtain ⟨o, ho, r⟩ := hl
  exact ⟨o, k c o n ho, r⟩
theorem trk_ne (I : Inv X pins σ H s) {p : Addr} {o : HO} (h : H p = some o) : p ≠ X.env.locals := fun e => by
  rw [e, I.free] at h; cases h
theorem abs_if (i : Int) : (if i < 0 then -i else i) = (i.natAbs : Int) := by
  split <;> omega
/-- the parts of a call with the word key -/
theorem pe_keyed {id x : Str} {bid : String} {P c : Addr} {e : Expr} {te : TE} {params : Arguments} {body : Expr} {scope : Scope} {prm : Str} {T : TabL} {p lpos kpos pos : Pos} {R : V → Hp → VK → L2.St → Prop} (hid : id = x)
    (hg : Gl X x) (hm : X.mg x = none) (hv : bootBuiltins x = some (.builtin bid)) (he : PE X e te) (hn : x ≠ "__name__") (hdb : (x == ("__debug__" : Str)) = false)
    (TB : LamX.TabB X.base X.mg c P) (hcode : X.env.code = .ref c) (hmT : (P, X.env.qual ++ "<lambda>") ∈ T) (hu : ∀ q ∈ T, q.1 = P → q.2 = X.env.qual ++ "<lambda>") (LP : LamP X.env.scope scope prm) (hdef : defaultsOf params X.env = ([], []))
    (hs : starEach [e] X.env = (false, eval e X.env) :: starEach [] X.env)
    (go : ∀ (pins : List (Addr × Obj)) (s s1 : Shared) (σ : L2.St) (H H1 : Hp) (Q : VK) (u : Value) (v : V) (f c' : Addr) (pm ctv : Value), RelV v u → R v H Q σ → Inv X pins σ H s → Inv X pins σ H1 s1 → Ex T H H1 →
      s1.heap.get? f = some (PySem.W.kla_obj "<lambda>" (X.env.qual ++ "<lambda>") params body scope (cloFrom X.env.cells scope.names []) pm c' ctv) → f ≠ X.env.locals → H1 c' = some (LamX.CodeO c' (X.env.qual ++ "<lambda>")) →
      wpAny (model X.prog X.w) X.A (call (.builtin bid) [u] [(Str.ofString "key", .ref f)]) (EP X pins σ Q) X.xe s1) :
    PE X (.Call (.Name x p) [e] [⟨some "key", .Lambda params body scope lpos, kpos⟩] pos) (fun σ H Q => te σ H fun v H1 => LamX.Tabs T H1 ∧ R v H1 Q σ) := by
  refine ⟨fun pins s σ H Q I h => ?_⟩
  refine wpAny_Call_Name_kw (ld_blt I hg hm hv ?_ hn hdb)
  refine PyProof.Rows.callWith_kw ?_ (by rw [hs]; rfl) (by rw [hs]; rfl) (by rfl) (by rfl)
  rw [hs]
  show wpAny _ _ (spliced ((false, eval e X.env) :: backTo pos (starEach [] X.env))) _ _ s
  refine Calls.spliced_cons (thn (he.run pins s σ H _ I h) fun u s1 ⟨v, H1, I1, r1, hT, q1⟩ => Calls.spliced_nil ?_)
  show wpAny _ _ (evalAll ((do let v ← eval (.Lambda params body scope lpos) X.env; standAt pos; pure v) :: (backToKw pos (keywordEach [] X.env)).map (·.2))) _ _ s1
  refine wpAny_evalAll_cons (wpAny_bind (LamX.lam_make2 I1 TB hcode hmT hu hT hdef (LP.has I1.ok) fun f c' pm ctv H2 s2 I2 eN T2 hf hfn hfr hco => wpAny_bind (wpAny_standAt (wpAny_pure ?_))))
  refine wpAny_evalAll_nil ?_
  show wpAny _ _ (call (.builtin bid) [u] [(Str.ofString "key", .ref f)]) _ _ _
  have hfL : f ≠ X.env.locals := by
    rintro rfl
    obtain ⟨m, ⟨o, es, ep, e, d, _⟩, _⟩ := I2.loc
    rw [hf] at e
    cases e
    cases d
  exact go pins s1 s2 σ H1 H2 Q u v f c' pm ctv r1 q1 I1 I2 ⟨eN, fun _ => T2⟩ hf hfL hco
theorem stay_of {h : Heap} {m : Str → Option Value} {own : List (Addr × Obj)} (I : Inv X pins σ H s) (F : Fr X.base X.env.locals h m) (N : News X.base X.env.locals h (allNews X.base s.heap X.env.locals ++ own)) : Stay X.env.locals s.heap h := fun b o h1 e => by
  cases q : X.base.get? b with
  | some u =>
    have := I.bk b u q
    rw [e] at this; cases this
    exact F.keep b _ q
  | none => exact (N (b, o) (List.mem_append_left _ (mem_allNews h1 q e))).1
theorem fr_all {g h h' : Heap} {L : Addr} {m : Str → Option Value} (F : Fr g L h m) (k : All_ h h') : Fr g L h' m := by
  obtain ⟨o, es, ep, e, r⟩ := F.ns
  exact ⟨⟨o, es, ep, k _ _ e, r⟩, fun b o e => k b o (F.keep b o e), F.above⟩
theorem news_all_ {g h h' : Heap} {L : Addr} {l : List (Addr × Obj)} (N : News g L h l) (k : All_ h h') : News g L h' l := fun p hp => ⟨k _ _ (N p hp).1, (N p hp).2⟩
theorem code_of (I : Inv X pins σ H s) {c' : Addr} {q : Str} (h : H c' = some (LamX.CodeO c' q)) : ∃ (oc : Obj) (vs : Array Value) (t : Tok), s.heap.get? c' = some oc ∧ oc.data = .fields vs ∧ vs[1]? = some (.str q t) := by
  obtain ⟨x, _, _⟩ := I.hok c' _ h
  exact x
/-- what the lambda's names are -/
structure KeyNames (X : Cx) (scope : Scope) (prm : Str) (fr : List (Str × Nat)) : Prop where
  kind : scope.kind = .function
  par : ∀ L f c', (lamE X scope L f c').kindOf prm = some .local
  abs : ∀ L f c', (lamE X scope L f c').kindOf "abs" = some .globalImplicit
  fre : ∀ y ∈ fr, scope.names.lookup y.1 = some .free ∧ X.N[y.2]? = some y.1
  frk : ∀ y ∈ fr, ∀ L f c', (lamE X scope L f c').kindOf y.1 = some .free
theorem kn1 {scope : Scope} {prm a : Str} {i : Nat} (h1 : scope.kind = .function) (hp : scope.names.lookup prm = some .local) (habs : scope.names.lookup (Str.ofString "abs") = some .globalImplicit) (ha : scope.names.lookup a = some .free) (na : X.N[i]? = some a) : KeyNames X scope prm [(a, i)] :=
  ⟨h1, fun _ _ _ => hp, fun _ _ _ => habs, fun y hy => by rw [List.mem_singleton.mp hy]; exact ⟨ha, na⟩, fun y hy _ _ _ => by rw [List.mem_singleton.mp hy]; exact ha⟩
theorem kn2 {scope : Scope} {prm a b : Str} {i j : Nat} (h1 : scope.kind = .function) (hp : scope.names.lookup prm = some .local) (habs : scope.names.lookup (Str.ofString "abs") = some .globalImplicit) (ha : scope.names.lookup a = some .free) (hb : scope.names.lookup b = some .free) (na : X.N[i]? = some a) (nb : X.N[j]? = some b) : KeyNames X scope prm [(a, i), (b, j)] :=
  ⟨h1, fun _ _ _ => hp, fun _ _ _ => habs, fun y hy => by
    rcases List.mem_cons.mp hy with rfl | hy
    · exact ⟨ha, na⟩
    · rw [List.mem_singleton.mp hy]; exact ⟨hb, nb⟩, fun y hy _ _ _ => by
    rcases List.mem_cons.mp hy with rfl | hy
    · exact ha
    · rw [List.mem_singleton.mp hy]; exact hb⟩
theorem pe_minrow {P c : Addr} {e : Expr} {te : TE} {params : Arguments} {scope : Scope} {T : TabL} {p p1 p2 p3 p4 p5 p6 p7 lpos kpos pos : Pos} {ir ic k : Nat}
    (hr : Room (k + 1) X.A) (hcalm : X.calm = true) (hg : Gl X "min") (hm : X.mg "min" = none) (hma : X.mg "abs" = none) (he : PE X e te)
    (TB : LamX.TabB X.base X.mg c P) (hcode : X.env.code = .ref c) (hmT : (P, X.env.qual ++ "<lambda>") ∈ T) (hu : ∀ q ∈ T, q.1 = P → q.2 = X.env.qual ++ "<lambda>") (LP : LamP X.env.scope scope "at") (KN : KeyNames X scope "at" [("rows", ir), ("column", ic)]) (hdef : defaultsOf params X.env = ([], []))
    (hbind : ∀ (q : Str) (cl : List (Str × Addr)) (pm cv ctv v : Value), bindArgs (PySem.W.kla_fn "<lambda>" q params (.Call (.Name "abs" p1) [.Subscript (.Subscript (.Name "rows" p2) (.Name "at" p3) p4) (.Name "column" p5) p6] [] p7) scope cl pm cv ctv) ⟨[v], []⟩ = pure [((Str.ofString "at" : Str), v)])
    (hs : starEach [e] X.env = (false, eval e X.env) :: starEach [] X.env := by rfl) :
    PE X (.Call (.Name "min" p) [e] [⟨some "key", .Lambda params (.Call (.Name "abs" p1) [.Subscript (.Subscript (.Name "rows" p2) (.Name "at" p3) p4) (.Name "column" p5) p6] [] p7) scope lpos, kpos⟩] pos) (fun σ H Q => te σ H fun v H1 => LamX.Tabs T H1 ∧ tMinRow T X.K ir ic (tC v) σ H1 Q) := by
  refine pe_keyed (id := "min") (bid := "min") (R := fun v H1 Q σ => tMinRow T X.K ir ic (tC v) σ H1 Q) rfl hg hm (by decide +kernel) he (by decide) (by decide) TB hcode hmT hu LP hdef hs fun pins s s1 σ H H1 Q u v f c' pm ctv rv hR I I1 ex hf hfL hco => ?_
  obtain ⟨q, L, ats, as, R, col, rfl, hq, hsr, hsc, hL, hrows, hne, hin, _, done⟩ := hR
  obtain rfl : u = .ref q := rv
  have hq1 := ex.lst hq
  have hL1 := ex.lst hL
  obtain ⟨its, vals, plq, hzq⟩ := I1.list (.of (K := X.K) hq1)
  obtain ⟨rvs, valr, plr, hzr⟩ := I1.list (.of (K := X.K) hL1)
  obtain ⟨m, hn, hl⟩ := id I1.loc
  have F : Fr X.base X.env.locals s1.heap m := ⟨hn, I1.bk, Nat.le_trans I1.ok.bsz I1.ok.above⟩
  obtain ⟨cr, ur, hcr, rr, icr, ncr⟩ := lam_free I1 LP (KN.fre _ (.head _)).1 (KN.fre _ (.head _)).2 hsr
  obtain ⟨cc, uc, hcc, rc, icc, ncc⟩ := lam_free I1 LP (KN.fre _ (.tail _ (.head _))).1 (KN.fre _ (.tail _ (.head _))).2 hsc
  obtain rfl : ur = .ref L := rr
  obtain ⟨tc, rfl⟩ := (show ∃ t, uc = Value.int (col : Int) t from rc)
  have vlen := vals.length
  rw [List.length_map] at vlen
  have at_ : ∀ (i : Nat) (v : Value), its[i]? = some v → ∃ (a : Nat) (t : Tok), ats[i]? = some a ∧ v = .int (a : Int) t := fun i v hv => by
    have hi : i < its.length := (List.getElem?_eq_some_iff.mp hv).1
    obtain ⟨a, ha⟩ : ∃ a, ats[i]? = some a := ⟨_, List.getElem?_eq_getElem (by omega)⟩
    obtain ⟨u, hu', r⟩ := vals.get (x := V.int (a : Int)) (i := i) (by rw [List.getElem?_map, ha]; rfl)
    rw [hv] at hu'
    cases hu'
    obtain ⟨t, rfl⟩ := (show ∃ t, v = Value.int (a : Int) t from r)
    exact ⟨a, t, ha, rfl⟩
  refine kmk_min (fun i => ((ent R (ats.getD i 0) col).natAbs : Int)) (I1.ok.hd hcalm) F news_all (fun h F' N' => list_stay (stay_of (own := []) I1 F' (by rw [List.append_nil]; exact N')) plq.isList (trk_ne I1 hq1))
    (by rw [← vlen]; cases ats with
      | nil => exact absurd rfl hne
      | cons a l => simp) (fun i v hv h tk own F' N' => ?_) fun i v h' tk' hv hb F' N' => ?_
  · have ke := stay_of I1 F' N'
    obtain ⟨a, ta, ha, rfl⟩ := at_ i v hv
    have ha' : ats.getD i 0 = a := by simp [ha]
    obtain ⟨haR, hcR⟩ := hin a (List.mem_of_getElem? ha)
    have hRa : R[a]? = some (R.getD a []) := by simp [haR]
    obtain ⟨ra, hra, hrow⟩ := hrows.get' hRa
    have hrow1 := ex.lst hrow
    obtain ⟨xs, valx, plx, hzx⟩ := I1.list (.of (K := X.K) hrow1)
    obtain ⟨u1, hu1, r1⟩ := valr.get (x := V.ref ra) (i := a) (by rw [List.getElem?_map, hra]; rfl)
    obtain rfl : u1 = .ref ra := r1
    obtain ⟨u2, hu2, r2⟩ := valx.get (x := V.int (rf (R.getD a []) col)) (i := col) (int_at hcR)
    obtain ⟨t2, rfl⟩ := (show ∃ t, u2 = Value.int (rf (R.getD a []) col) t from r2)
    have lrv := valr.length
    have lxv := valx.length
    rw [List.length_map] at lrv lxv
    have lasR := hrows.length
    have z63 := line63
    have zz : as.length ≤ sizeLine := by simpa using hzr
    have zz2 : (R.getD a []).length ≤ sizeLine := by simpa using hzx
    refine wpAny_mono (lam_turn I1 LP hf hfL (code_of I1 hco) (trk_ne I1 hco) hr.in1.depth ke (fun val => ∃ t, val = .int ((ent R a col).natAbs : Int) t) (hbind _ _ _ _ _ _) fun L0 h₁ tk1 k1 ns E Q q => ?_) (fun val s2 ⟨h', tk', e, k, t, ev⟩ => ?_) fun _ _ x => x
    · have k2 : Stay X.env.locals s1.heap h₁ := fun b o n e => k1 b o (ke b o n e)
      have kb : All_ X.base h₁ := base_stay I1 k2
      obtain ⟨mb, hb1, hb2⟩ := I1.mod.blt
      refine raw_abs KN.kind (KN.abs _ _ _) (I1.mod.glob.keeps kb) hma (hb1.keeps kb) ((hb2 "abs" (by decide)).trans (by decide +kernel)) ?_ rfl
      refine raw_ixL (fun _ _ => rfl) (raw_ixL (fun _ _ => rfl) (raw_free KN.kind (KN.frk _ (.head _) _ _ _) hcr (cell_stay k2 icr ncr) ?_))
      refine raw_local (m := fun x => ([((Str.ofString "at" : Str), Value.int (a : Int) ta)] : List (Str × Value)).reverse.lookup x) KN.kind (KN.par _ _ _) ns (by rfl) ?_
      refine ⟨L, rvs.toArray, (a : Int), ta, .ref ra, rfl, rfl, list_stay k2 plr.isList (trk_ne I1 hL1), by omega, by omega, by rw [Int.toNat_natCast]; simpa using hu1, ?_⟩
      refine raw_free KN.kind (KN.frk _ (.tail _ (.head _)) _ _ _) hcc (cell_stay k2 icc ncc) ?_
      refine ⟨ra, xs.toArray, (col : Int), tc, _, rfl, rfl, list_stay k2 plx.isList (trk_ne I1 hrow1), by omega, by omega, by rw [Int.toNat_natCast]; simpa using hu2, _, t2, rfl, fun u tk => ?_⟩
      exact q _ _ ⟨u, by rw [abs_if]; rfl⟩
    · subst e ev
      refine ⟨h', tk', t, rfl, ?_, fr_all F' k, news_all_ N' k⟩
      simp only [ha']
  · obtain ⟨a, ta, ha, rfl⟩ := at_ i v hv
    have ha' : ats.getD i 0 = a := by simp [ha]
    refine ⟨.int (a : Int), H1, inv_frame I1 hn F' N', ⟨ta, rfl⟩, done H1 a ex (List.mem_of_getElem? ha) fun b hb' => ?_⟩
    obtain ⟨j, hj, rfl⟩ := List.getElem_of_mem hb'
    have hb1 := (hb j (by omega)).1
    have e2 : ats.getD j 0 = ats[j] := by simp [hj]
    simp only [ha', e2] at hb1
    omega
end
/-! ### sorted(l, key=lambda r: abs(r[j])) -/
def tSortRow (T : TabL) (K : PySem.W.Frag) (ij : Nat) (te : TE) : TE := fun σ H Q => te σ H fun x H1 => ∃ (p : Addr) (as : List Addr) (R : List Row) (j : Nat), x = .ref p ∧ H1 p = some (.lst (as.map V.ref)) ∧
  σ[ij]? = some (some (.int (j : Int))) ∧ All2 (RowAt K H1) as R ∧ (∀ r ∈ R, j < r.length) ∧ LamX.Tabs T H1 ∧
  ∀ H2 q as' R', Ex T H1 H2 → H2 q = some (.lst (as'.map V.ref)) → All2 (RowAt K H2) as' R' → R'.Perm R → R'.Pairwise (fun a b => (rf a j).natAbs ≤ (rf b j).natAbs) → Q (.ref q) H2
theorem all2_zip {α β : Type} {P : α → β → Prop} : ∀ {l : List α} {m : List β}, All2 P l m → ∀ x ∈ l.zip m, P x.1 x.2
  | _, _, .nil, x, h => by simp at h
  | _, _, .cons p t, x, h => by
    rw [List.zip_cons_cons] at h
    rcases List.mem_cons.mp h with rfl | h
    · exact p
    · exact all2_zip t x h
theorem all2_of {α β γ : Type} {P : β → γ → Prop} (f : α → β) (g : α → γ) : ∀ {l : List α}, (∀ x ∈ l, P (f x) (g x)) → All2 P (l.map f) (l.map g)
  | [], _ => .nil
  | x :: l, h => .cons (h x List.mem_cons_self) (all2_of f g fun y hy => h y (List.mem_cons_of_mem _ hy))
theorem zip_snd {α β : Type} : ∀ {l : List α} {m : List β}, l.length = m.length → (l.zip m).map Prod.snd = m
  | [], [], _ => rfl
  | [], _ :: _, h => by simp at h
  | _ :: _, [], h => by simp at h
  | a :: l, b :: m, h => by rw [List.zip_cons_cons, List.map_cons, zip_snd (by simpa using h)]
section
variable {X : Cx} {pins : List (Addr × Obj)} {σ : L2.St} {H : Hp} {s : Shared}
theorem each_refs : ∀ {as : List Addr} {R : List Row} {vs : List Value}, as.length = R.length → Vals (as.map V.ref) vs → PySem.W.EachIs (fun (v : Value) (b : Addr × Row) => v = .ref b.1) vs (as.zip R)
  | [], [], _, _, .nil => .nil
  | [], _ :: _, _, h, _ => by simp at h
  | _ :: _, [], _, h, _ => by simp at h
  | a :: as, r :: R, v :: vs, h, .cons x t => by
    rw [List.zip_cons_cons]
    exact .cons x (each_refs (by simpa using h) t)
theorem refs_each : ∀ {bs : List (Addr × Row)} {vs : List Value}, PySem.W.EachIs (fun (v : Value) (b : Addr × Row) => v = .ref b.1) vs bs → Vals ((bs.map Prod.fst).map V.ref) vs
  | [], _, .nil => .nil
  | b :: bs, _, .cons x t => by
    rw [List.map_cons, List.map_cons]
    exact .cons x (refs_each t)
theorem pe_sortrow {P c : Addr} {e : Expr} {te : TE} {params : Arguments} {scope : Scope} {T : TabL} {p p1 p2 p5 p6 p7 lpos kpos pos : Pos} {ij k : Nat}
    (hr : Room (k + 2) X.A) (hg : Gl X "sorted") (hm : X.mg "sorted" = none) (hma : X.mg "abs" = none) (he : PE X e te)
    (TB : LamX.TabB X.base X.mg c P) (hcode : X.env.code = .ref c) (hmT : (P, X.env.qual ++ "<lambda>") ∈ T) (hu : ∀ q ∈ T, q.1 = P → q.2 = X.env.qual ++ "<lambda>") (LP : LamP X.env.scope scope "_law_row") (KN : KeyNames X scope "_law_row" [("_law_j", ij)]) (hdef : defaultsOf params X.env = ([], []))
    (hbind : ∀ (q : Str) (cl : List (Str × Addr)) (pm cv ctv v : Value), bindArgs (PySem.W.kla_fn "<lambda>" q params (.Call (.Name "abs" p1) [.Subscript (.Name "_law_row" p2) (.Name "_law_j" p5) p6] [] p7) scope cl pm cv ctv) ⟨[v], []⟩ = pure [((Str.ofString "_law_row" : Str), v)])
    (hs : starEach [e] X.env = (false, eval e X.env) :: starEach [] X.env := by rfl) :
    PE X (.Call (.Name "sorted" p) [e] [⟨some "key", .Lambda params (.Call (.Name "abs" p1) [.Subscript (.Name "_law_row" p2) (.Name "_law_j" p5) p6] [] p7) scope lpos, kpos⟩] pos) (fun σ H Q => te σ H fun v H1 => LamX.Tabs T H1 ∧ tSortRow T X.K ij (tC v) σ H1 Q) := by
  refine pe_keyed (id := "sorted") (bid := "sorted") (R := fun v H1 Q σ => tSortRow T X.K ij (tC v) σ H1 Q) rfl hg hm (by decide +kernel) he (by decide) (by decide) TB hcode hmT hu LP hdef hs fun pins s s1 σ H H1 Q u v f c' pm ctv rv hR I I1 ex hf hfL hco => ?_
  obtain ⟨q, as, R, j, rfl, hq, hsj, hrows, hlen, _, done⟩ := hR
  obtain rfl : u = .ref q := rv
  have hq1 := ex.lst hq
  have hrows1 := ex.all hrows
  obtain ⟨its, vals, plq, hzq⟩ := I1.list (.of (K := X.K) hq1)
  obtain ⟨cj, uj, hcj, rj, icj, ncj⟩ := lam_free I1 LP (KN.fre _ (.head _)).1 (KN.fre _ (.head _)).2 hsj
  obtain ⟨tj, rfl⟩ := (show ∃ t, uj = Value.int (j : Int) t from rj)
  have lr := hrows.length
  have lz : (as.zip R).length = as.length := by rw [List.length_zip]; omega
  have al : as.length ≤ sizeLine := by simpa using hzq
  refine PySem.W.sorted_key_data (β := Addr × Row) (bs := as.zip R) (R := fun (v : Value) (b : Addr × Row) => v = .ref b.1) (b := false) (f := .ref f) (fun b => .int ((rf b.2 j).natAbs : Int)) plq.isList (each_refs lr vals)
    (fun d hd d' hd' => by
      obtain ⟨x, _, rfl⟩ := List.mem_map.mp hd
      obtain ⟨y, _, rfl⟩ := List.mem_map.mp hd'
      simp [PySem.W.alike])
    (.inr fun d hd => by
      obtain ⟨x, _, rfl⟩ := List.mem_map.mp hd
      exact ⟨PyData.noConfusion, fun _ => PyData.noConfusion⟩) (by rw [lz]; exact al)
    (fun x _ => by
      have := hr.units
      simp only [PyData.depth]
      omega)
    (PyProof.Rows.ksk_s1 _ _) (fun _ => PyProof.Rows.ksk_l1 _ _) (fun x => PyProof.Rows.ksk_t1 f x) (fun v b hv hb h tk ke => ?_) fun out cc h' tk k hn hD hlo eo => ?_
  · obtain ⟨a, r⟩ := b
    subst hv
    have hra : RowAt X.K H1 a r := all2_zip hrows1 _ hb
    have hjr : j < r.length := hlen r (List.of_mem_zip hb).2
    obtain ⟨xs, valx, plx, hzx⟩ := I1.tuple hra
    obtain ⟨u2, hu2, r2⟩ := valx.get (x := V.int (rf r j)) (i := j) (int_at hjr)
    obtain ⟨t2, rfl⟩ := (show ∃ t, u2 = Value.int (rf r j) t from r2)
    have lxv := valx.length
    rw [List.length_map] at lxv
    have z63 := line63
    have zz2 : r.length ≤ sizeLine := by simpa using hzx
    have ke' : Stay X.env.locals s1.heap h := fun b o _ e => ke b o e
    refine wpAny_mono (lam_turn I1 LP hf hfL (code_of I1 hco) (trk_ne I1 hco) hr.in1.in1.depth ke' (fun val => ∃ t, val = .int ((rf r j).natAbs : Int) t) (hbind _ _ _ _ _ _) fun L0 h₁ tk1 k1 ns E Q q => ?_) (fun val s2 ⟨h', tk', e, k, t, ev⟩ => ?_) fun _ _ x => x
    · have k2 : All_ s1.heap h₁ := fun b o e => k1 b o (ke b o e)
      have kb : All_ X.base h₁ := fun b o e => k2 b o (I1.bk b o e)
      obtain ⟨mb, hb1, hb2⟩ := I1.mod.blt
      refine raw_abs KN.kind (KN.abs _ _ _) (I1.mod.glob.keeps kb) hma (hb1.keeps kb) ((hb2 "abs" (by decide)).trans (by decide +kernel)) ?_ rfl
      refine raw_ixT (fun _ _ => rfl) (raw_local (m := fun x => ([((Str.ofString "_law_row" : Str), Value.ref a)] : List (Str × Value)).reverse.lookup x) KN.kind (KN.par _ _ _) ns (by rfl) ?_)
      refine raw_free KN.kind (KN.frk _ (.head _) _ _ _) hcj (cell_stay (fun b o _ e => k2 b o e) icj ncj) ?_
      obtain ⟨o, ho, hrest⟩ := plx
      have sq : seqIndex? (j : Int) xs.toArray.size = some j := by
        rw [List.size_toArray]
        have := (ixN_seq (n := xs.length) (i := (j : Int)) (j := j) (by unfold ixN; rw [if_pos (by omega), if_pos (by omega)]; simp)).1
        exact this
      refine ⟨a, xs.toArray, (j : Int), tj, j, _, rfl, rfl, ⟨o, k2 a o ho, hrest⟩, by omega, by omega, sq, by simpa using hu2, _, t2, rfl, fun u tk => ?_⟩
      exact q _ _ ⟨u, by rw [abs_if]⟩
    · subst e ev
      exact ⟨h', tk', rfl, k, .int _ _⟩
  · have hp := List.mergeSort_perm (as.zip R) (PySem.W.dataLe false fun b => PyData.int ((rf b.2 j).natAbs : Int))
    have hsorted : ((as.zip R).mergeSort (PySem.W.dataLe false fun b => PyData.int ((rf b.2 j).natAbs : Int))).Pairwise fun a b => (rf a.2 j).natAbs ≤ (rf b.2 j).natAbs := by
      rw [PySem.W.dataLe_int (fun b : Addr × Row => ((rf b.2 j).natAbs : Int))]
      refine (List.pairwise_mergeSort (fun a b c h1 h2 => ?_) (fun a b => ?_) _).imp fun {a b} h => ?_
      · have h1 := of_decide_eq_true h1; have h2 := of_decide_eq_true h2; exact decide_eq_true (by omega)
      · by_cases h : ((rf a.2 j).natAbs : Int) ≤ ((rf b.2 j).natAbs : Int)
        · simp [h]
        · simp [h]; omega
      · have := of_decide_eq_true h; omega
    generalize (as.zip R).mergeSort (PySem.W.dataLe false fun b => PyData.int ((rf b.2 j).natAbs : Int)) = bs at *
    have ov := refs_each eo
    have hfree : H1 (s1.heap.objs.size + 1) = none := I1.hok.fresh (Nat.le_succ _)
    have hlz : ((bs.map Prod.fst).map V.ref).length ≤ sizeLine := by
      rw [List.length_map, List.length_map, hp.length_eq, lz]; exact al
    have I2 := I1.laid (t' := tk) (a := s1.heap.objs.size + 1) (o := .lst ((bs.map Prod.fst).map V.ref)) k (Nat.le_succ _) ⟨hlz, out, cc, ov, hD⟩
    refine ⟨.ref _, _, I2, rfl, done _ _ (bs.map Prod.fst) (bs.map Prod.snd) (ex.trans (.new hfree)) upd_same ?_ ?_ ?_⟩
    · exact all2_of _ _ fun x hx => Ex.row (T := T) (.new hfree) (all2_zip hrows1 x (hp.mem_iff.mp hx))
    · have := hp.map Prod.snd
      rw [zip_snd lr] at this
      exact this
    · exact List.pairwise_map.mpr hsorted
end
end K94

set_option Elab.async false
set_option linter.all false
/-! M6: rows led to steps: bounds, turns. -/
namespace K94
/-! ### bits -/
def bt (n : Nat) : Nat := if n = 0 then 0 else n.log2 + 1
theorem lt_bt (n : Nat) : n < 2 ^ bt n := by
  unfold bt
  split
  · omega
  · exact Nat.lt_log2_self
theorem bt_le {n b : Nat} (h : n < 2 ^ b) : bt n ≤ b := by
  unfold bt
  split
  · omega
  · rename_i hn
    have := (Nat.log2_lt hn).mpr h
    omega
theorem bt_mono {a b : Nat} (h : a ≤ b) : bt a ≤ bt b := bt_le (Nat.lt_of_le_of_lt h (lt_bt b))
theorem bt_half {a b : Nat} (hb : 0 < b) (h : 2 * a ≤ b) : bt a + 1 ≤ bt b := by
  have h1 : 1 ≤ bt b := by
    unfold bt; rw [if_neg (by omega)]; omega
  have h2 := lt_bt b
  have : a < 2 ^ (bt b - 1) := by
    have e : 2 ^ bt b = 2 * 2 ^ (bt b - 1) := by
      rw [← Nat.pow_succ']; congr 1; omega
    omega
  have := bt_le this
  omega
/-! ### sums over places -/
def sumN (f : Nat → Nat) : Nat → Nat
  | 0 => 0
  | n + 1 => sumN f n + f n
theorem sumN_le {f g : Nat → Nat} : ∀ n, (∀ i, i < n → f i ≤ g i) → sumN f n ≤ sumN g n
  | 0, _ => Nat.le_refl _
  | n + 1, h => by
    have := sumN_le n fun i hi => h i (by omega)
    have := h n (by omega)
    simp only [sumN]; omega
theorem sumN_lt {f g : Nat → Nat} : ∀ n, (∀ i, i < n → f i ≤ g i) → (∃ i, i < n ∧ f i < g i) → sumN f n < sumN g n
  | 0, _, ⟨_, h, _⟩ => absurd h (Nat.not_lt_zero _)
  | n + 1, h, ⟨i, hi, hl⟩ => by
    simp only [sumN]
    by_cases e : i = n
    · subst e
      have := sumN_le i fun j hj => h j (by omega)
      omega
    · have := sumN_lt n (fun j hj => h j (by omega)) ⟨i, by omega, hl⟩
      have := h n (by omega)
      omega
theorem sumN_congr {f g : Nat → Nat} (n : Nat) (h : ∀ i, i < n → f i = g i) : sumN f n = sumN g n :=
  Nat.le_antisymm (sumN_le n fun i hi => Nat.le_of_eq (h i hi)) (sumN_le n fun i hi => Nat.le_of_eq (h i hi).symm)
theorem sumN_bound {f : Nat → Nat} {b : Nat} : ∀ n, (∀ i, i < n → f i ≤ b) → sumN f n ≤ n * b
  | 0, _ => by simp [sumN]
  | n + 1, h => by
    have := sumN_bound n fun i hi => h i (by omega)
    have := h n (by omega)
    simp only [sumN]
    rw [Nat.succ_mul]; omega
theorem sumN_put {f : Nat → Nat} {a v : Nat} : ∀ n, a < n → sumN (fun i => if i = a then v else f i) n + f a = sumN f n + v
  | 0, h => absurd h (Nat.not_lt_zero _)
  | n + 1, h => by
    simp only [sumN]
    by_cases e : a = n
    · subst e
      rw [if_pos rfl]
      have := sumN_congr (f := fun i => if i = a then v else f i) (g := f) a fun i hi => if_neg (by omega)
      omega
    · have := sumN_put (f := f) (v := v) n (a := a) (by omega)
      rw [if_neg (by omega)]
      omega
theorem sumN_swap {f g : Nat → Nat} {a b n : Nat} (ha : a < n) (hb : b < n) (h1 : g a = f b) (h2 : g b = f a) (h3 : ∀ i, i ≠ a → i ≠ b → g i = f i) : sumN g n = sumN f n := by
  by_cases e : a = b
  · subst e
    exact sumN_congr n fun i _ => by
      by_cases hi : i = a
      · subst hi; exact h1
      · exact h3 i hi hi
  · have q1 := sumN_put (f := f) (a := a) (v := f b) n ha
    have q2 := sumN_put (f := fun i => if i = a then f b else f i) (a := b) (v := f a) n hb
    rw [if_neg (Ne.symm e)] at q2
    have : sumN g n = sumN (fun i => if i = b then f a else if i = a then f b else f i) n := sumN_congr n fun i _ => by
      by_cases hb' : i = b
      · subst hb'; rw [if_pos rfl]; exact h2
      · rw [if_neg hb']
        by_cases ha' : i = a
        · subst ha'; rw [if_pos rfl]; exact h1
        · rw [if_neg ha']; exact h3 i ha' hb'
    omega
/-! ### division -/
theorem fmod_pos {x p : Int} (hp : 0 < p) : 0 ≤ x.fmod p ∧ x.fmod p < p := ⟨Int.fmod_nonneg_of_pos x hp, Int.fmod_lt_of_pos x hp⟩
theorem fmod_neg {x p : Int} (hp : p < 0) : x.fmod p ≤ 0 ∧ p < x.fmod p := by
  have h1 := Int.emod_nonneg x (show p ≠ 0 by omega)
  have h2 := Int.emod_lt_of_neg x hp
  rw [Int.fmod_eq_emod]
  split
  · rename_i h
    rcases h with h | h
    · omega
    · have := Int.emod_eq_zero_of_dvd h
      omega
  · omega
theorem fmod_abs {x p : Int} (hp : p ≠ 0) : (x.fmod p).natAbs < p.natAbs := by
  rcases Int.lt_or_lt_of_ne hp with h | h
  · have := fmod_neg (x := x) h; omega
  · have := fmod_pos (x := x) h; omega
theorem fdiv_abs {x p : Int} (hp : p ≠ 0) : (x.fdiv p).natAbs * p.natAbs ≤ x.natAbs + p.natAbs := by
  have h1 := Int.fmod_add_fdiv_mul x p
  have h2 := fmod_abs (x := x) hp
  rw [← Int.natAbs_mul]
  omega
/-- alike signs: the rest is at most half -/
theorem fmod_half {x p : Int} (hp : p ≠ 0) (hs : (0 ≤ x ∧ 0 < p) ∨ (x ≤ 0 ∧ p < 0)) (hl : p.natAbs ≤ x.natAbs) : 2 * (x.fmod p).natAbs ≤ x.natAbs := by
  have h1 := Int.fmod_add_fdiv_mul x p
  rcases hs with ⟨hx, h⟩ | ⟨hx, h⟩
  · have h2 := fmod_pos (x := x) h
    have h3 : 1 ≤ x.fdiv p := by
      by_cases q : x.fdiv p ≤ 0
      · have : x.fdiv p * p ≤ 0 := Int.mul_nonpos_of_nonpos_of_nonneg q (by omega)
        omega
      · omega
    have h4 : 1 * p ≤ x.fdiv p * p := Int.mul_le_mul_of_nonneg_right h3 (by omega)
    omega
  · have h2 := fmod_neg (x := x) h
    have h3 : 1 ≤ x.fdiv p := by
      by_cases q : x.fdiv p ≤ 0
      · have : 0 ≤ x.fdiv p * p := Int.mul_nonneg_of_nonpos_of_nonpos q (by omega)
        omega
      · omega
    have h4 : x.fdiv p * p ≤ 1 * p := Int.mul_le_mul_of_nonpos_right h3 (by omega)
    omega
/-! ### a column's turn -/
open Classical in
noncomputable def mu (f : Nat → Int) (t n : Nat) : Nat := sumN (fun i => bt (f (t + i)).natAbs) n + (if (∀ i, i < n → 0 ≤ f (t + i)) ∨ (∀ i, i < n → f (t + i) ≤ 0) then 0 else 1)
theorem mu_le {f : Nat → Int} {t n b : Nat} (h : ∀ i, i < n → (f (t + i)).natAbs < 2 ^ b) : mu f t n ≤ n * b + 1 := by
  have := sumN_bound (f := fun i => bt (f (t + i)).natAbs) n fun i hi => bt_le (h i hi)
  unfold mu
  split <;> omega
theorem mu_swap {f g : Nat → Int} {t n a b : Nat} (ha : a < n) (hb : b < n) (h1 : g (t + a) = f (t + b)) (h2 : g (t + b) = f (t + a)) (h3 : ∀ i, i ≠ a → i ≠ b → g (t + i) = f (t + i)) : mu g t n = mu f t n := by
  have hg : ∀ i, i < n → ∃ j, j < n ∧ g (t + i) = f (t + j) := fun i hi => by
    by_cases e1 : i = a
    · exact ⟨b, hb, e1 ▸ h1⟩
    · by_cases e2 : i = b
      · exact ⟨a, ha, e2 ▸ h2⟩
      · exact ⟨i, hi, h3 i e1 e2⟩
  have hf : ∀ i, i < n → ∃ j, j < n ∧ f (t + i) = g (t + j) := fun i hi => by
    by_cases e1 : i = a
    · exact ⟨b, hb, e1 ▸ h2.symm⟩
    · by_cases e2 : i = b
      · exact ⟨a, ha, e2 ▸ h1.symm⟩
      · exact ⟨i, hi, (h3 i e1 e2).symm⟩
  have q : ((∀ i, i < n → 0 ≤ g (t + i)) ∨ (∀ i, i < n → g (t + i) ≤ 0)) ↔ ((∀ i, i < n → 0 ≤ f (t + i)) ∨ (∀ i, i < n → f (t + i) ≤ 0)) := by
    constructor
    · rintro (h | h)
      · exact .inl fun i hi => by obtain ⟨j, hj, e⟩ := hf i hi; rw [e]; exact h j hj
      · exact .inr fun i hi => by obtain ⟨j, hj, e⟩ := hf i hi; rw [e]; exact h j hj
    · rintro (h | h)
      · exact .inl fun i hi => by obtain ⟨j, hj, e⟩ := hg i hi; rw [e]; exact h j hj
      · exact .inr fun i hi => by obtain ⟨j, hj, e⟩ := hg i hi; rw [e]; exact h j hj
  unfold mu
  rw [sumN_swap (f := fun i => bt (f (t + i)).natAbs) (g := fun i => bt (g (t + i)).natAbs) ha hb (by simp only [h1]) (by simp only [h2]) fun i e1 e2 => by simp only [h3 i e1 e2]]
  simp only [q]
theorem mu_turn {f g : Nat → Int} {t n : Nat} (hn : 0 < n) (hp : f t ≠ 0) (hl : ∀ i, i < n → f (t + i) ≠ 0 → (f t).natAbs ≤ (f (t + i)).natAbs) (h0 : g t = f t) (h1 : ∀ i, 0 < i → i < n → g (t + i) = (f (t + i)).fmod (f t))
    (hx : ∃ i, 0 < i ∧ i < n ∧ f (t + i) ≠ 0) : mu g t n + 1 ≤ mu f t n := by
  have le : ∀ i, i < n → bt (g (t + i)).natAbs ≤ bt (f (t + i)).natAbs := fun i hi => bt_mono (by
    by_cases e : i = 0
    · subst e; rw [Nat.add_zero, h0]; exact Nat.le_refl _
    · rw [h1 i (by omega) hi]
      by_cases z : f (t + i) = 0
      · rw [z]; simp
      · have := hl i hi z
        have := fmod_abs (x := f (t + i)) hp
        omega)
  have hs : (∀ i, i < n → 0 ≤ g (t + i)) ∨ (∀ i, i < n → g (t + i) ≤ 0) := by
    rcases Int.lt_or_lt_of_ne hp with h | h
    · refine .inr fun i hi => ?_
      by_cases e : i = 0
      · subst e; rw [Nat.add_zero, h0]; omega
      · rw [h1 i (by omega) hi]; exact (fmod_neg h).1
    · refine .inl fun i hi => ?_
      by_cases e : i = 0
      · subst e; rw [Nat.add_zero, h0]; omega
      · rw [h1 i (by omega) hi]; exact (fmod_pos h).1
  unfold mu
  rw [if_pos hs]
  by_cases q : (∀ i, i < n → 0 ≤ f (t + i)) ∨ (∀ i, i < n → f (t + i) ≤ 0)
  · rw [if_pos q]
    obtain ⟨i, hi0, hi, hz⟩ := hx
    refine sumN_lt n le ⟨i, hi, ?_⟩
    have hll := hl i hi hz
    have h2 : 2 * ((f (t + i)).fmod (f t)).natAbs ≤ (f (t + i)).natAbs := fmod_half hp (by
      rcases q with q | q
      · have a := q i hi
        have b := q 0 hn
        rw [Nat.add_zero] at b
        exact .inl ⟨a, by omega⟩
      · have a := q i hi
        have b := q 0 hn
        rw [Nat.add_zero] at b
        exact .inr ⟨a, by omega⟩) hll
    have := bt_half (a := (g (t + i)).natAbs) (b := (f (t + i)).natAbs) (by omega) (by rw [h1 i hi0 hi]; exact h2)
    exact this
  · rw [if_neg q]
    have := sumN_le (f := fun i => bt (g (t + i)).natAbs) (g := fun i => bt (f (t + i)).natAbs) n le
    omega
/-! ### rows in a turn -/
def Bd (M : Nat) (R : List Row) : Prop := ∀ i j, (ent R i j).natAbs ≤ M
def colF (R : List Row) (c : Nat) : Nat → Int := fun i => ent R i c
structure Mid (m w t c : Nat) (Rs R : List Row) (M X Ps : Nat) : Prop where
  tab : Tab m w R
  keep : ∀ i, i < t → ∀ j, ent R i j = ent Rs i j
  zero : ∀ j, j < c → ∀ i, t ≤ i → ent R i j = 0
  bd : Bd M R
  x : ∀ i, t ≤ i → (ent R i c).natAbs ≤ X
  one : 1 ≤ X
  mone : 1 ≤ M
  pot : M * X * 4 ^ mu (colF R c) t (m - t) ≤ Ps
section
variable {m w t c : Nat} {Rs R : List Row} {M X Ps : Nat}
theorem Mid.le (h : Mid m w t c Rs R M X Ps) : M ≤ Ps ∧ X ≤ Ps := by
  have h1 := h.pot
  have h2 : 1 ≤ 4 ^ mu (colF R c) t (m - t) := Nat.pow_pos (by decide)
  have h3 : M * X * 1 ≤ M * X * 4 ^ mu (colF R c) t (m - t) := Nat.mul_le_mul_left _ h2
  have h4 : M * 1 ≤ M * X := Nat.mul_le_mul_left _ h.one
  have h5 : 1 * X ≤ M * X := Nat.mul_le_mul_right _ h.mone
  constructor <;> omega
theorem Mid.swap (h : Mid m w t c Rs R M X Ps) {l : Nat} (ht : t < m) (hl : t ≤ l) (hlm : l < m) (hne : t ≠ l) : Mid m w t c Rs (rowsB R (.swap t l)) M X Ps := by
  have ok : DeedOk m (.swap t l) := ⟨ht, hlm, hne⟩
  have e : ∀ a j, ent (rowsB R (.swap t l)) a j = if a = t then ent R l j else if a = l then ent R t j else ent R a j := fun a j => ent_rowsB h.tab ok a j
  have e1 : ∀ a j, t ≤ a → ∃ b, t ≤ b ∧ ent (rowsB R (.swap t l)) a j = ent R b j := fun a j ha => by
    rw [e]
    by_cases h1 : a = t
    · rw [if_pos h1]; exact ⟨l, hl, rfl⟩
    · rw [if_neg h1]
      by_cases h2 : a = l
      · rw [if_pos h2]; exact ⟨t, Nat.le_refl _, rfl⟩
      · rw [if_neg h2]; exact ⟨a, ha, rfl⟩
  refine ⟨h.tab.rowsB ok, fun i hi j => ?_, fun j hj i hi => ?_, fun i j => ?_, fun i hi => ?_, h.one, h.mone, ?_⟩
  · rw [e, if_neg (by omega), if_neg (by omega)]; exact h.keep i hi j
  · obtain ⟨b, hb, q⟩ := e1 i j hi
    rw [q]; exact h.zero j hj b hb
  · rw [e]; split
    · exact h.bd _ _
    · split <;> exact h.bd _ _
  · obtain ⟨b, hb, q⟩ := e1 i c hi
    rw [q]; exact h.x b hb
  · have : mu (colF (rowsB R (.swap t l)) c) t (m - t) = mu (colF R c) t (m - t) := by
      refine mu_swap (a := 0) (b := l - t) (by omega) (by omega) ?_ ?_ fun i h1 h2 => ?_
      · show ent _ (t + 0) c = ent R (t + (l - t)) c
        rw [e, if_pos (by omega)]; congr 1; omega
      · show ent _ (t + (l - t)) c = ent R (t + 0) c
        rw [e, if_neg (by omega), if_pos (by omega)]; congr 1
      · show ent _ (t + i) c = ent R (t + i) c
        rw [e, if_neg (by omega), if_neg (by omega)]
    rw [this]; exact h.pot
/-- rows between t and a have been dealt with -/
structure Part (m w t a c : Nat) (R1 R : List Row) : Prop where
  tab : Tab m w R
  ent : ∀ i j, ent R i j = if t < i ∧ i < a then ent R1 i j - (ent R1 i c).fdiv (ent R1 t c) * ent R1 t j else ent R1 i j
theorem Part.start {R1 : List Row} (h : Tab m w R1) : Part m w t (t + 1) c R1 R1 := ⟨h, fun i j => by rw [if_neg (by omega)]⟩
theorem Part.skip {a : Nat} {R1 : List Row} (h : Part m w t a c R1 R) (hq : (K94.ent R1 a c).fdiv (K94.ent R1 t c) = 0) : Part m w t (a + 1) c R1 R := ⟨h.tab, fun i j => by
  rw [h.ent]
  by_cases h1 : t < i ∧ i < a
  · rw [if_pos h1, if_pos (by omega)]
  · rw [if_neg h1]
    by_cases h2 : t < i ∧ i < a + 1
    · have : i = a := by omega
      subst this
      rw [if_pos h2, hq]; omega
    · rw [if_neg h2]⟩
theorem Part.step {a : Nat} {R1 : List Row} (h : Part m w t a c R1 R) (hta : t < a) (ham : a < m) : Part m w t (a + 1) c R1 (rowsB R (.add a t (0 - (K94.ent R1 a c).fdiv (K94.ent R1 t c)))) := by
  have ok : DeedOk m (.add a t (0 - (K94.ent R1 a c).fdiv (K94.ent R1 t c))) := ⟨ham, by omega, by omega⟩
  refine ⟨h.tab.rowsB ok, fun i j => ?_⟩
  rw [ent_rowsB h.tab ok]
  show (if i = a then K94.ent R a j + _ * K94.ent R t j else K94.ent R i j) = _
  by_cases e : i = a
  · subst e
    rw [if_pos rfl, if_pos (by omega), h.ent i j, if_neg (by omega), h.ent t j, if_neg (by omega)]
    grind
  · rw [if_neg e, h.ent]
    by_cases h1 : t < i ∧ i < a
    · rw [if_pos h1, if_pos (by omega)]
    · rw [if_neg h1, if_neg (by omega)]
theorem quot_le {x p : Int} {X : Nat} (hp : p ≠ 0) (hx : x.natAbs ≤ X) : (x.fdiv p).natAbs ≤ X / p.natAbs + 1 := by
  have h := fdiv_abs (x := x) hp
  have hp' : 0 < p.natAbs := by omega
  have h2 : (x.fdiv p).natAbs ≤ (x.natAbs + p.natAbs) / p.natAbs := (Nat.le_div_iff_mul_le hp').mpr h
  rw [Nat.add_div_right _ hp'] at h2
  have := Nat.div_le_div_right (c := p.natAbs) hx
  omega
theorem Mid.turned {R1 : List Row} (h : Mid m w t c Rs R1 M X Ps) (ht : t < m) (hp : ent R1 t c ≠ 0) (hl : ∀ i, t ≤ i → ent R1 i c ≠ 0 → (ent R1 t c).natAbs ≤ (ent R1 i c).natAbs) (q : Part m w t m c R1 R) :
    (∃ M' X', X' ≤ X ∧ Mid m w t c Rs R M' X' Ps) ∧ ent R t c ≠ 0 ∧ (∀ i, t ≤ i → (ent R i c).natAbs ≤ (ent R t c).natAbs) ∧ ((∃ i, t < i ∧ i < m ∧ ent R i c ≠ 0) → mu (colF R c) t (m - t) + 1 ≤ mu (colF R1 c) t (m - t)) := by
  have et : ∀ j, ent R t j = ent R1 t j := fun j => by rw [q.ent, if_neg (by omega)]
  have ei : ∀ i, t < i → i < m → ent R i c = (ent R1 i c).fmod (ent R1 t c) := fun i h1 h2 => by
    rw [q.ent, if_pos ⟨h1, h2⟩, Int.fmod_def, Int.mul_comm]
  have small : ∀ i, t ≤ i → (ent R i c).natAbs ≤ (ent R t c).natAbs := fun i hi => by
    by_cases e : i = t
    · subst e; exact Nat.le_refl _
    · by_cases him : i < m
      · rw [ei i (by omega) him, et]
        exact Nat.le_of_lt (fmod_abs hp)
      · rw [ent_out1 q.tab (by omega)]; simp
  refine ⟨?_, by rw [et]; exact hp, small, fun ⟨i, h1, h2, h3⟩ => ?_⟩
  · have keep : ∀ i, i < t → ∀ j, ent R i j = ent Rs i j := fun i hi j => by rw [q.ent, if_neg (by omega)]; exact h.keep i hi j
    have zero : ∀ j, j < c → ∀ i, t ≤ i → ent R i j = 0 := fun j hj i hi => by
      rw [q.ent, h.zero j hj i hi, h.zero j hj t (Nat.le_refl _)]
      split <;> simp
    by_cases hx : ∃ i, t < i ∧ i < m ∧ ent R1 i c ≠ 0
    · have hpp : 0 < (ent R1 t c).natAbs := by omega
      have bd : Bd (M * (X / (ent R1 t c).natAbs + 2)) R := fun i j => by
        rw [q.ent]
        have b1 := h.bd i j
        have b2 := h.bd t j
        split
        · rename_i hc
          have b3 := quot_le hp (h.x i (by omega))
          have b4 : ((ent R1 i c).fdiv (ent R1 t c) * ent R1 t j).natAbs ≤ (X / (ent R1 t c).natAbs + 1) * M := by
            rw [Int.natAbs_mul]; exact Nat.mul_le_mul b3 b2
          have b5 : M * (X / (ent R1 t c).natAbs + 2) = M + (X / (ent R1 t c).natAbs + 1) * M := by
            generalize X / (ent R1 t c).natAbs = z
            grind
          omega
        · have : M * 1 ≤ M * (X / (ent R1 t c).natAbs + 2) := Nat.mul_le_mul_left _ (Nat.le_trans (by decide : 1 ≤ 2) (Nat.le_add_left _ _))
          omega
      have fall : mu (colF R c) t (m - t) + 1 ≤ mu (colF R1 c) t (m - t) := by
        obtain ⟨i, h1, h2, h3⟩ := hx
        refine mu_turn (f := colF R1 c) (g := colF R c) (t := t) (n := m - t) (by omega) hp (fun i hi hz => hl (t + i) (by omega) hz) (et c) (fun i hi him => ei (t + i) (by omega) (by omega)) ⟨i - t, by omega, by omega, ?_⟩
        show ent R1 (t + (i - t)) c ≠ 0
        rw [show t + (i - t) = i by omega]; exact h3
      refine ⟨M * (X / (ent R1 t c).natAbs + 2), (ent R1 t c).natAbs, h.x t (Nat.le_refl _), q.tab, keep, zero, bd, fun i hi => by rw [← et c]; exact small i hi, hpp, ?_, ?_⟩
      · have : 1 * 1 ≤ M * (X / (ent R1 t c).natAbs + 2) := Nat.mul_le_mul h.mone (Nat.le_trans (by decide : 1 ≤ 2) (Nat.le_add_left _ _))
        omega
      · have p1 := h.x t (Nat.le_refl _)
        have d1 : X / (ent R1 t c).natAbs * (ent R1 t c).natAbs ≤ X := Nat.div_mul_le_self _ _
        have k1 : M * (X / (ent R1 t c).natAbs + 2) * (ent R1 t c).natAbs ≤ M * X * 4 := by
          have e1 : M * (X / (ent R1 t c).natAbs + 2) * (ent R1 t c).natAbs = M * (X / (ent R1 t c).natAbs * (ent R1 t c).natAbs + 2 * (ent R1 t c).natAbs) := by
            rw [Nat.mul_assoc, Nat.add_mul]
          rw [e1, Nat.mul_assoc]
          exact Nat.mul_le_mul_left _ (by omega)
        have k2 : 4 * 4 ^ mu (colF R c) t (m - t) ≤ 4 ^ mu (colF R1 c) t (m - t) := by
          rw [← Nat.pow_succ']
          exact Nat.pow_le_pow_right (by decide) fall
        have k3 : M * (X / (ent R1 t c).natAbs + 2) * (ent R1 t c).natAbs * 4 ^ mu (colF R c) t (m - t) ≤ M * X * 4 * 4 ^ mu (colF R c) t (m - t) := Nat.mul_le_mul_right _ k1
        have k4 : M * X * 4 * 4 ^ mu (colF R c) t (m - t) = M * X * (4 * 4 ^ mu (colF R c) t (m - t)) := Nat.mul_assoc _ _ _
        have k5 : M * X * (4 * 4 ^ mu (colF R c) t (m - t)) ≤ M * X * 4 ^ mu (colF R1 c) t (m - t) := Nat.mul_le_mul_left _ k2
        have := h.pot
        omega
    · have e : ∀ i j, ent R i j = ent R1 i j := fun i j => by
        rw [q.ent]
        split
        · rename_i hc
          have : ent R1 i c = 0 := by
            by_cases z : ent R1 i c = 0
            · exact z
            · exact absurd ⟨i, hc.1, hc.2, z⟩ hx
          rw [this]; simp
        · rfl
      refine ⟨M, X, Nat.le_refl _, q.tab, keep, zero, fun i j => by rw [e]; exact h.bd i j, fun i hi => by rw [e]; exact h.x i hi, h.one, h.mone, ?_⟩
      have : colF R c = colF R1 c := funext fun i => e i c
      rw [this]; exact h.pot
  · have h4 : ent R1 i c ≠ 0 := fun z => h3 (by rw [ei i h1 h2, z]; simp)
    refine mu_turn (f := colF R1 c) (g := colF R c) (t := t) (n := m - t) (by omega) hp (fun i hi hz => hl (t + i) (by omega) hz) (et c) (fun i hi him => ei (t + i) (by omega) (by omega)) ⟨i - t, by omega, by omega, ?_⟩
    show ent R1 (t + (i - t)) c ≠ 0
    rw [show t + (i - t) = i by omega]; exact h4
end
end K94

set_option Elab.async false
set_option linter.all false
set_option maxRecDepth 100000
set_option maxHeartbeats 4000000
/-! L5: == of lists and rows, tests, runs of deeds. -/
namespace K94
open PySem PySem.Spec PyProof.Rows L2
/-! ### data -/
def rowD (r : Row) : PyData := .tuple (r.map PyData.int)
section
variable {K : PySem.W.Frag} {H : Hp} {a : Addr} {r s : Row} {R : List Row} {as : List Addr}
theorem dpAll_ints : ∀ r : Row, DpAll K H (r.map V.int) (r.map PyData.int)
  | [] => .nil
  | x :: r => .cons (.int x) (dpAll_ints r)
theorem dp_row (h : RowAt K H a r) : Dp K H (.ref a) (rowD r) := .tup h (dpAll_ints r)
theorem dpAll_rows : ∀ {as : List Addr} {R : List Row}, All2 (RowAt K H) as R → DpAll K H (as.map V.ref) (R.map rowD)
  | _, _, .nil => .nil
  | _, _, .cons p t => .cons (dp_row p) (dpAll_rows t)
theorem lay_ints : ∀ r : Row, PyData.canLayAll0 (r.map PyData.int) = true
  | [] => by simp [PyData.canLayAll0]
  | x :: r => by simp [PyData.canLayAll0, PyData.canLay0, lay_ints r]
theorem depth_ints : ∀ r : Row, PyData.depthAll (r.map PyData.int) = 0
  | [] => by simp [PyData.depthAll]
  | x :: r => by simp [PyData.depthAll, PyData.depth, depth_ints r]
theorem lay_rows : ∀ R : List Row, PyData.canLayAll0 (R.map rowD) = true
  | [] => by simp [PyData.canLayAll0]
  | x :: R => by simp [PyData.canLayAll0, rowD, PyData.canLay0, lay_ints x, lay_rows R]
theorem depth_rows : ∀ R : List Row, PyData.depthAll (R.map rowD) ≤ 1
  | [] => by simp [PyData.depthAll]
  | x :: R => by
    have := depth_rows R
    simp only [List.map_cons, PyData.depthAll, rowD, PyData.depth, depth_ints x]
    omega
theorem shaped_of {d : PyData} (h : d.canLay0 = true) (h2 : d.depth ≤ 64) : SeqAt.shaped d = true := by
  show (d.canLay0 && decide (d.depth ≤ 64)) = true
  rw [h, decide_eq_true h2]; rfl
theorem shaped_row (r : Row) : SeqAt.shaped (rowD r) = true := shaped_of (by simp only [rowD, PyData.canLay0]; exact lay_ints r) (by simp [rowD, PyData.depth, depth_ints])
theorem shaped_ints (r : Row) : SeqAt.shaped (.list (r.map PyData.int)) = true := shaped_of (by simp only [PyData.canLay0]; exact lay_ints r) (by simp [PyData.depth, depth_ints])
theorem shaped_rows (R : List Row) : SeqAt.shaped (.list (R.map rowD)) = true := shaped_of (by simp only [PyData.canLay0]; exact lay_rows R) (by
  have := depth_rows R
  simp only [PyData.depth]; omega)
theorem eqvAll_nil (ds : List PyData) : PyData.eqvAll ds [] = ds.isEmpty := by cases ds <;> simp [PyData.eqvAll]
theorem eqv_ints : ∀ r s : Row, PyData.eqvAll (r.map PyData.int) (s.map PyData.int) = decide (r = s)
  | [], [] => by simp [PyData.eqvAll]
  | [], _ :: _ => by simp [PyData.eqvAll]
  | _ :: _, [] => by simp [PyData.eqvAll]
  | x :: r, y :: s => by
    simp only [List.map_cons, PyData.eqvAll, PyData.eqv, eqv_ints r s]
    by_cases h : x = y
    · subst h; simp
    · simp [h]
theorem eqv_rows (r s : Row) : PyData.eqv (rowD r) (rowD s) = decide (r = s) := by simp only [rowD, PyData.eqv, eqv_ints]
theorem any_rows (r : Row) : ∀ R : List Row, ((R.map rowD).any fun z => PyData.eqv z (rowD r)) = decide (r ∈ R)
  | [] => by simp
  | s :: R => by
    rw [List.map_cons, List.any_cons, any_rows r R, eqv_rows]
    by_cases h : s = r
    · subst h; simp
    · have : r ≠ s := fun e => h e.symm
      simp [h, this]
end
theorem room_eq {k : Nat} {A : Around} (h : Room k A) : A.units + 64 < cLine := h.units
/-! ### tests, stores -/
section
variable {X : Cx} {K : PySem.W.Frag} {σ : L2.St} {H : Hp} {ta tb tc te : TE} {tt : TT} {t u : TS} {D : Ends}
theorem et_ne {i j : Int} (a : Ep ta σ H (.int i)) (b : Ep tb σ H (.int j)) : Et (tTest (tOp rNe ta tb)) σ H (decide (i ≠ j)) := fun _ q => a _ (b _ ⟨rfl, _, rfl, by rw [vne]; exact q⟩)
theorem et_eq {i j : Int} (a : Ep ta σ H (.int i)) (b : Ep tb σ H (.int j)) : Et (tTest (tOp rEq ta tb)) σ H (decide (i = j)) := fun _ q => a _ (b _ ⟨rfl, _, rfl, by rw [veq]; exact q⟩)
theorem et_i0 {g : Int → Int → Bool} {i j : Int} (a : Ep ta σ H (.int i)) (b : Ep tb σ H (.int j)) : Et (tTest (tOp (rI0 fun i j => .bl (g i j)) ta tb)) σ H (g i j) := fun _ q => a _ (b _ ⟨i, j, rfl, rfl, _, rfl, q⟩)
theorem s_ifE {b : Bool} (e : Et tt σ H b) (h1 : b = true → t D σ H) (h2 : b = false → u D σ H) : tIfS tt t u D σ H := e _ (by
  cases b with
  | true => exact iteT (h1 rfl)
  | false => exact iteF (h2 rfl))
theorem s_setE {i : Nat} {v : V} (e : Ep te σ H v) (k : D.nx (σ.set i (some v)) H) : tAsg te (gName i) D σ H := e _ k
end
/-! ### runs -/
section
variable {m w : Nat} {R0 R : List Row} {ds : List Deed} {d : Deed}
structure Run (m w : Nat) (R0 : List Row) (ds : List Deed) (R : List Row) : Prop where
  tab : Tab m w R
  done : DoneOk m R0 ds
  eq : R = rowsD R0 ds
theorem Run.start (h : Tab m w R0) : Run m w R0 [] R0 := ⟨h, ⟨by simp, by simp⟩, rfl⟩
theorem Run.step (h : Run m w R0 ds R) (ok : DeedOk m d) (mul : MulD R d) : Run m w R0 (ds ++ [d]) (rowsB R d) := by
  refine ⟨h.tab.rowsB ok, ⟨fun e he => ?_, fun i e he => ?_⟩, by rw [rowsD_snoc, ← h.eq]⟩
  · rcases List.mem_append.mp he with q | q
    · exact h.done.ok e q
    · rw [List.mem_singleton.mp q]; exact ok
  · by_cases hi : i < ds.length
    · rw [List.take_append_of_le_length (Nat.le_of_lt hi)]
      exact h.done.mul i e (by rw [List.getElem?_append_left hi] at he; exact he)
    · have hi2 : i = ds.length := by
        have := (List.getElem?_eq_some_iff.mp he).1
        simp at this; omega
      subst hi2
      rw [List.getElem?_append_right (Nat.le_refl _)] at he
      simp at he
      subst he
      rw [List.take_append_of_le_length (Nat.le_refl _), List.take_length, ← h.eq]
      exact mul
theorem mulD_bits {a t : Nat} {k : Int} {A : Nat} {M : Nat} (bd : Bd M R) (hM : M < 2 ^ A) (hk : k.natAbs < 2 ^ A) (hA : A ≤ 40000000) : MulD R (.add a t k) :=
  fun c _ => mulOk_bits hk (Nat.lt_of_le_of_lt (bd t c) hM) (by omega)
end
section
variable {T : TabL} {K : PySem.W.Frag} {H : Hp} {L D : Addr} {m w : Nat} {R : List Row} {ds : List Deed}
theorem lead_go {Q : VK} {E : XK} {b : Addr} {d : Deed} (W : Work K H L D R ds) (tab : Tab m w R) (ok : DeedOk m d) (mul : MulD R d) (hm : m ≤ 1000) (hw : w ≤ 1000) (hz : ds.length < 1000000) (hb : H b = none)
    (k : ∀ H', Chg T L D H H' → Work K H' L D (rowsB R d) (ds ++ [d]) → Q .non H') : spLeadOn T K [.ref L, .ref D, .ref b] (upd H b (.tup (deedV d))) Q E :=
  ⟨L, D, b, m, w, R, ds, d, rfl, W.mono (T := T) (.new hb), tab, sqT_of upd_same, ok, mul, hm, hw, hz, fun H' c w' => k H' ((Chg.of (.new hb)).trans c) w'⟩
theorem Work.rows (W : Work K H L D R ds) (tab : Tab m w R) {i : Nat} (hi : i < m) : ∃ (as : List Addr) (a : Addr), H L = some (.lst (as.map V.ref)) ∧ (as.map V.ref)[i]? = some (.ref a) ∧ LRow K H a (R.getD i []) ∧ as.length = m := by
  obtain ⟨as, das, h1, h2, h3, h4⟩ := W.ex
  obtain ⟨a, ha, hr⟩ := rowin_get h3 tab hi
  exact ⟨as, a, h1, ha, .of hr.1, by rw [h3.length, tab.len]⟩
theorem ep_cell {σ : L2.St} {ta tb tc : TE} {x y : Int} {i j : Nat} (W : Work K H L D R ds) (tab : Tab m w R) (a : Ep ta σ H (.ref L)) (b : Ep tb σ H (.int x)) (hx : x = (i : Int)) (hi : i < m) (c : Ep tc σ H (.int y)) (hy : y = (j : Int)) (hj : j < w) :
    Ep (tOp (rLRow K) (tOp (rLk K) ta tb) tc) σ H (.int (ent R i j)) := by
  obtain ⟨as, p, h1, h2, h3, _⟩ := W.rows tab hi
  exact ep_lrow (ep_l a b (.of h1) hx h2) c h3 hy (by rw [getD_len tab hi]; exact hj)
theorem ep_lenW {σ : L2.St} {ta : TE} (W : Work K H L D R ds) (tab : Tab m w R) (a : Ep ta σ H (.ref L)) : Ep (tCB (rLenN K) (tCons ta tNil)) σ H (.int (m : Int)) := fun Q q => by
  obtain ⟨as, das, h1, h2, h3, h4⟩ := W.ex
  exact a _ ⟨L, _, m, rfl, .inl (.of h1), by rw [List.length_map, h3.length, tab.len], q⟩
end
end K94

set_option Elab.async false
set_option linter.all false
set_option maxRecDepth 100000
set_option maxHeartbeats 4000000
namespace K94
open PySem PySem.Spec PyProof.Rows L2
section
variable {P : Program} {w : World} {K : PySem.W.Frag} {mg : Str → Option Value} {base : Heap} {T : TabL}
/-! ### clear_above -/
structure AboveOk (m w t c : Nat) (R R' : List Row) (M : Nat) : Prop where
  top : ∃ s : Int, (s = 1 ∨ s = -1) ∧ (∀ j, ent R' t j = s * ent R t j) ∧ 0 < ent R' t c
  up : ∀ i, i < t → ∃ k : Int, k.natAbs ≤ M + 1 ∧ ∀ j, ent R' i j = ent R i j + k * ent R' t j
  low : ∀ i, t < i → ∀ j, ent R' i j = ent R i j
def spAbove (T : TabL) (K : PySem.W.Frag) : Sp := fun vs H Q _ => ∃ (L D : Addr) (m w t c M A : Nat) (R0 R : List Row) (ds : List Deed), vs = [.ref L, .ref D, .int (t : Int), .int (c : Int)] ∧ Work K H L D R ds ∧ Run m w R0 ds R ∧ t < m ∧ c < w ∧ ent R t c ≠ 0 ∧
  (ent R t c).natAbs < 2 ^ 9000 ∧ Bd M R ∧ M + 1 < 2 ^ A ∧ A ≤ 40000000 ∧ m ≤ 1000 ∧ w ≤ 1000 ∧ ds.length + t + 2 ≤ 1000000 ∧
  ∀ H' R' ds', Chg T L D H H' → Work K H' L D R' ds' → Run m w R0 ds' R' → AboveOk m w t c R R' M → ds'.length ≤ ds.length + t + 1 → Q .non H'
theorem turn_go {R : List Row} {t : Nat} {m w : Nat} (tab : Tab m w R) (ht : t < m) (a j : Nat) : ent (rowsB R (.turn t)) a j = if a = t then - ent R a j else ent R a j := ent_rowsB tab (d := .turn t) ht a j
theorem sc_clear_above : FnScope ["rows", "deeds", "top", "column", "at", "many"] ["rows", "deeds", "top", "column"] (defScope s_clear_above) := ⟨rfl, rfl, rfl, by decide +kernel, rfl, by decide +kernel, by decide +kernel⟩
theorem ok_clear_above (F : Def K mg "clear_above" s_clear_above) (B : Bi mg) (c_lead_on : C8.Cal P w K mg base 1 "lead_on" (spLeadOn T K) []) : C8.Cal P w K mg base 2 "clear_above" (spAbove T K) [] := by
  refine F.cal sc_clear_above (fun vs H Q E h => ?_) (fun _ _ _ _ _ _ us hl => match us, hl with | [_, _, _, _], _ => rfl) (fun f cdv A outer s H vs Q E hr h => ?_)
  · obtain ⟨L, D, m, w', t, c, M, A', R0, R, ds, rfl, _⟩ := h
    rfl
  obtain ⟨L, D, m, w', t, c, M, A', R0, R, ds, rfl, W, run, ht, hc, hp, hp9, bd, hM, hA, hm, hw, hz, k⟩ := h
  refine ⟨_,
  (Evl.pss_cut (ps_if (pt_cmpR op_lt (pe_ix (ix_lrow K) (pe_ix (ix_l K) (pv 0) (pv 2) (fun _ _ => rfl)) (pv 3) (fun _ _ => rfl)) pe_int (nomark _))
    (pss_one (ps_expr (C8.pe_c c_lead_on hr (by decide) rfl (pa_cons (pv 0) (pa_cons (pv 1) (pa_cons (pe_tup (pa_cons pe_str (pa_cons (pv 2) pa_nil))) pa_nil))))))
    pss_nil)
  (pss_one (ps_for PassesOwn.never rfl (pi_rgN rfl B.range (pa_cons (pv 2) pa_nil)) (pg_name (i := 4) sc_clear_above.nd rfl (by first | exact Or.inl rfl | exact Or.inr rfl))
    (pss_cons (ps_set (i := 5) sc_clear_above.nd rfl (by first | exact Or.inl rfl | exact Or.inr rfl) (pe_op op_fdivB (pe_ix (ix_lrow K) (pe_ix (ix_l K) (pv 0) (pv 4) (fun _ _ => rfl)) (pv 3) (fun _ _ => rfl)) (pe_ix (ix_lrow K) (pe_ix (ix_l K) (pv 0) (pv 2) (fun _ _ => rfl)) (pv 3) (fun _ _ => rfl))))
    (pss_one (ps_if (pt_cmpR op_ne (pv 5) pe_int (nomark _))
      (pss_one (ps_expr (C8.pe_c c_lead_on hr (by decide) rfl (pa_cons (pv 0) (pa_cons (pv 1) (pa_cons (pe_tup (pa_cons pe_str (pa_cons (pv 4) (pa_cons (pv 2) (pa_cons (pe_op op_sub pe_int (pv 5)) pa_nil))))) pa_nil))))))
      pss_nil)))))), ?_⟩
  refine ⟨fun σ H1 => ∃ R1 ds1, Chg T L D H H1 ∧ Work K H1 L D R1 ds1 ∧ Run m w' R0 ds1 R1 ∧ ds1.length ≤ ds.length + 1 ∧ (∃ s : Int, (s = 1 ∨ s = -1) ∧ (∀ j, ent R1 t j = s * ent R t j) ∧ 0 < ent R1 t c) ∧ (∀ i, i ≠ t → ∀ j, ent R1 i j = ent R i j) ∧ Bd M R1 ∧
    (ent R1 t c).natAbs < 2 ^ 9000 ∧ σ = [some (.ref L), some (.ref D), some (.int (t : Int)), some (.int (c : Int)), none, none], ?_, ?_⟩
  · refine s_ifE (et_i0 (g := fun i j => decide (i < j)) (ep_cell W run.tab (ep_var rfl) (ep_var rfl) rfl ht (ep_var rfl) rfl hc) ep_c) (fun hlt => ?_) fun hge => ?_
    · have hlt : ent R t c < 0 := by simpa using hlt
      refine ⟨_, rfl, _, rfl, _, rfl, by show 2 ≤ _; decide, fun b hb => ?_⟩
      dsimp only [tNil]
      refine lead_go (d := .turn t) W run.tab ht trivial hm hw (by omega) hb fun H' ch W' => ?_
      have e := turn_go run.tab ht
      refine ⟨_, _, ch, W', run.step ht trivial, by simp, ⟨-1, .inr rfl, fun j => by rw [e, if_pos rfl]; omega, by rw [e, if_pos rfl]; omega⟩, fun i hi j => by rw [e, if_neg hi], fun i j => ?_, by rw [e, if_pos rfl, Int.natAbs_neg]; exact hp9, rfl⟩
      rw [e]
      split
      · rw [Int.natAbs_neg]; exact bd _ _
      · exact bd _ _
    · have hge : ¬ ent R t c < 0 := by simpa using hge
      exact ⟨R, ds, .refl H, W, run, by omega, ⟨1, .inl rfl, fun j => by omega, by omega⟩, fun _ _ _ => rfl, bd, hp9, rfl⟩
  · rintro σ H1 ⟨R1, ds1, ch1, W1, run1, hz1, ⟨s1, hs1, hst, hpos⟩, hoth, bd1, hp1, rfl⟩
    refine ⟨_, rfl, _, t, rfl, rfl, by omega, for_it walk_N0 (fun i σ H' => ∃ R' ds' u v, Chg T L D H H' ∧ Work K H' L D R' ds' ∧ Run m w' R0 ds' R' ∧ ds'.length ≤ ds.length + 1 + i ∧ (∀ a, i ≤ a → ∀ j, ent R' a j = ent R1 a j) ∧
      (∀ a, a < i → ∃ k : Int, k.natAbs ≤ M + 1 ∧ ∀ j, ent R' a j = ent R1 a j + k * ent R1 t j) ∧ σ = [some (.ref L), some (.ref D), some (.int (t : Int)), some (.int (c : Int)), u, v])
      ⟨R1, ds1, _, _, ch1, W1, run1, hz1, fun _ _ _ => rfl, fun a ha => absurd ha (Nat.not_lt_zero _), rfl⟩ (fun _ _ _ _ _ => trivial) ?_ ?_⟩
    · rintro i x σ H2 H3 hi ⟨R', ds', u, v, ch, W', run', hz', hlow, hup, rfl⟩ ⟨rfl, rfl⟩
      have hT := hlow t (by omega)
      have hI := hlow i (Nat.le_refl _)
      have him : i < m := by omega
      have bq : ((ent R1 i c).fdiv (ent R1 t c)).natAbs ≤ M + 1 := by
        have := quot_le (X := M) (p := ent R1 t c) (by omega) (bd1 i c)
        have := Nat.div_le_self M (ent R1 t c).natAbs
        omega
      refine ep_i (g := fun i j => .int (i.fdiv j)) (ep_cell W' run'.tab (ep_var rfl) (ep_var rfl) rfl him (ep_var rfl) rfl hc) (ep_cell W' run'.tab (ep_var rfl) (ep_var rfl) rfl ht (ep_var rfl) rfl hc) ⟨by rw [hT]; omega, by rw [hT]; exact hp1⟩ _ ?_
      rw [hI, hT]
      refine s_ifE (et_ne (ep_var rfl) ep_c) (fun hne => ?_) fun heq => ?_
      · refine ⟨_, rfl, _, rfl, _, rfl, _, rfl, _, rfl, _, _, rfl, rfl, by show 4 ≤ _; decide, fun b hb => ?_⟩
        have ok : DeedOk m (.add i t (0 - (ent R1 i c).fdiv (ent R1 t c))) := ⟨him, ht, by omega⟩
        have kb : (0 - (ent R1 i c).fdiv (ent R1 t c)).natAbs < 2 ^ A' := by clear hp1 hp9; omega
        have mul : MulD R' (.add i t (0 - (ent R1 i c).fdiv (ent R1 t c))) := fun cc _ => by
          rw [hT]
          exact mulOk_bits (b := A') kb (Nat.lt_of_le_of_lt (bd1 t cc) (Nat.lt_of_succ_lt hM)) (by omega)
        dsimp only [tNil]
        refine lead_go (d := .add i t (0 - (ent R1 i c).fdiv (ent R1 t c))) W' run'.tab ok mul hm hw (by omega) hb fun H' ch' W2 => ?_
        have e : ∀ a j, ent (rowsB R' (.add i t (0 - (ent R1 i c).fdiv (ent R1 t c)))) a j = if a = i then ent R' a j + (0 - (ent R1 i c).fdiv (ent R1 t c)) * ent R' t j else ent R' a j := fun a j => by
          rw [ent_rowsB run'.tab ok]
          show (if a = i then ent R' i j + _ * ent R' t j else ent R' a j) = _
          by_cases q : a = i
          · subst q; rfl
          · rw [if_neg q, if_neg q]
        refine ⟨_, _, _, _, ch.trans ch', W2, run'.step ok mul, by simp; omega, fun a ha j => by rw [e, if_neg (by omega)]; exact hlow a (by omega) j, fun a ha => ?_, rfl⟩
        by_cases q : a = i
        · subst q
          exact ⟨0 - (ent R1 a c).fdiv (ent R1 t c), by omega, fun j => by rw [e, if_pos rfl, hI, hT]⟩
        · obtain ⟨k1, h1, h2⟩ := hup a (by omega)
          exact ⟨k1, h1, fun j => by rw [e, if_neg q]; exact h2 j⟩
      · have hz0 : (ent R1 i c).fdiv (ent R1 t c) = 0 := by simpa using heq
        refine ⟨R', ds', _, _, ch, W', run', by omega, fun a ha j => hlow a (by omega) j, fun a ha => ?_, rfl⟩
        by_cases q : a = i
        · subst q
          exact ⟨0, by simp, fun j => by rw [hI]; omega⟩
        · exact hup a (by omega)
    · rintro σ H2 ⟨R', ds', u, v, ch, W', run', hz', hlow, hup, rfl⟩
      have hT := hlow t (Nat.le_refl _)
      refine k H2 R' ds' ch W' run' ⟨⟨s1, hs1, fun j => by rw [hT]; exact hst j, by rw [hT]; exact hpos⟩, fun i hi => ?_, fun i hi j => by rw [hlow i (by omega)]; exact hoth i (by omega) j⟩ (by omega)
      obtain ⟨k1, h1, h2⟩ := hup i hi
      exact ⟨k1, h1, fun j => by rw [h2, hT, hoth i (by omega)]⟩
end
end K94

set_option Elab.async false
set_option linter.all false
set_option maxRecDepth 100000
set_option maxHeartbeats 4000000
namespace K94
open PySem PySem.Spec PyProof.Rows L2
section
variable {P : Program} {w : World} {K : PySem.W.Frag} {mg : Str → Option Value} {base : Heap} {T : TabL}
/-! ### defs whose code object is told -/
structure DefC (K : PySem.W.Frag) (mg : Str → Option Value) (base : Heap) (x : Str) (st : Stmt) (c P : Addr) : Prop where
  ex : ∃ (f : Addr) (fd : FuncData), FunD K x x (defArgs st) (defBody st) (defScope st) [] [] f fd ∧ mg x = some (.ref f) ∧ fd.code = .ref c
  tab : LamX.TabB base mg c P
theorem DefC.cal {x : Str} {st : Stmt} {N ps : List Str} {k : Nat} {sp : Sp} {c Pt : Addr} (F : DefC K mg base x st c Pt) (S : FnScope N ps (defScope st)) (len : ∀ vs H Q E, sp vs H Q E → vs.length = ps.length)
    (hb : ∀ (kV doc pm : Value) (an : Option Addr) (cdv ct : Value) (us : List Value), us.length = ps.length → bindArgs (PySem.W.fnOf x x (defArgs st) (defBody st) (defScope st) .none kV doc pm an cdv ct) ⟨us, []⟩ = pure (ps.zip us))
    (hbody : ∀ (f : Addr) (A : Around) (outer : List Env) (s : Shared) (H : Hp) (vs : List V) (Q : VK) (E : XK), Room k (A.deeper (envOfC x (defScope st) s.heap.objs.size f (.ref c))) → sp vs H Q E →
      ∃ t, PSs (cxOf CX0 P w K mg base N x (defScope st) f (.ref c) A outer s H E).nox (defBody st) t ∧ t { nx := fun _ H' => Q .non H', rt := Q } (start N vs) H) : C8.Cal P w K mg base (k + 1) x sp [] := by
  obtain ⟨f, fd, F, hm, hc⟩ := F.ex
  refine ⟨f, fd, ps, [], ?_, hm, F.kp, F.bindsN hb, .nil⟩
  obtain ⟨oc, od, dV, kV, doc, pm, an, cdv, ct, osl, rfl, lk, hcd, _, _⟩ := F.ex
  have hc : cdv = .ref c := hc
  subst hc
  exact fn_of lk hcd S len fun A outer s H vs Q E hr hsp => by
    obtain ⟨t, h, q⟩ := hbody f A outer s H vs Q E hr hsp
    exact ⟨t, h.nox, q⟩
def lamQ (x : Str) (st : Stmt) : Str := (envOfC x (defScope st) 0 0 .none).qual ++ "<lambda>"
/-! ### lists held against the empty list -/
theorem dp_empty {H : Hp} {xs : List V} {ds : List PyData} (h : DpAll K H xs ds) : ds.isEmpty = decide (xs = []) := by cases h <;> simp
theorem t_eqnil {σ : L2.St} {H : Hp} {i : Nat} {p : Addr} {xs : List V} {ds : List PyData} {Q : Bool → Hp → Prop} (hv : σ[i]? = some (some (.ref p))) (hs : SqL K H p xs) (hd : ∀ H', Ex T H H' → DpAll K H' xs ds) (sh : SeqAt.shaped (.list ds) = true)
    (q : ∀ H', Ex T H H' → Q (decide (xs = [])) H') : tTest (tOp (rEqD K) (tVar i) (tLst tNil)) σ H Q :=
  ⟨_, hv, Nat.zero_le _, fun l hl => ⟨.list ds, .list [], .lst (Ex.sqL (T := T) (.new hl) hs) (hd _ (.new hl)), .lst (.of upd_same) .nil, sh, rfl, _, rfl, by
    have : PyData.eqv (.list ds) (.list []) = decide (xs = []) := by rw [← dp_empty (hd _ (.refl H))]; simp only [PyData.eqv, eqvAll_nil]
    rw [this]; exact q _ (.new hl)⟩⟩
theorem t_nenil {σ : L2.St} {H : Hp} {i : Nat} {p : Addr} {xs : List V} {ds : List PyData} {Q : Bool → Hp → Prop} (hv : σ[i]? = some (some (.ref p))) (hs : SqL K H p xs) (hd : ∀ H', Ex T H H' → DpAll K H' xs ds) (sh : SeqAt.shaped (.list ds) = true)
    (q : ∀ H', Ex T H H' → Q (!decide (xs = [])) H') : tTest (tOp (rNeD K) (tVar i) (tLst tNil)) σ H Q :=
  ⟨_, hv, Nat.zero_le _, fun l hl => ⟨.list ds, .list [], .lst (Ex.sqL (T := T) (.new hl) hs) (hd _ (.new hl)), .lst (.of upd_same) .nil, sh, rfl, _, rfl, by
    have : PyData.eqv (.list ds) (.list []) = decide (xs = []) := by rw [← dp_empty (hd _ (.refl H))]; simp only [PyData.eqv, eqvAll_nil]
    rw [this]; exact q _ (.new hl)⟩⟩
theorem nat_ints (l : List Nat) : (l.map fun (a : Nat) => V.int (a : Int)) = (l.map fun (a : Nat) => (a : Int)).map V.int := by rw [List.map_map]; rfl
theorem seq_asg {te : TE} {g : TG} {u : TS} {D : Ends} {σ : L2.St} {H : Hp} (h : te σ H fun x H1 => g x σ H1 (u D)) : tSeq (tAsg te g) u D σ H := h
theorem asg_of {te : TE} {g : TG} {D : Ends} {σ : L2.St} {H : Hp} (h : te σ H fun x H1 => g x σ H1 D.nx) : tAsg te g D σ H := h
/-! ### clear_below -/
structure BelowOk (m w t c : Nat) (R R' : List Row) (b : Bool) (Ps X0 : Nat) : Prop where
  no : b = false → R' = R ∧ ∀ i, t ≤ i → ent R i c = 0
  yes : b = true → ent R' t c ≠ 0 ∧ ∀ i, t < i → ent R' i c = 0
  keep : ∀ i, i < t → ∀ j, ent R' i j = ent R i j
  zero : ∀ j, j < c → ∀ i, t ≤ i → ent R' i j = 0
  bd : Bd Ps R'
  piv : (ent R' t c).natAbs ≤ X0
def spBelow (T : TabL) (K : PySem.W.Frag) : Sp := fun vs H Q _ => ∃ (L D : Addr) (m w t c M A Ps : Nat) (R0 R : List Row) (ds : List Deed), vs = [.ref L, .ref D, .int (t : Int), .int (c : Int)] ∧ Work K H L D R ds ∧ Run m w R0 ds R ∧ t ≤ m ∧ c < w ∧
  Mid m w t c R R M M Ps ∧ M < 2 ^ 9000 ∧ Ps + 2 < 2 ^ A ∧ A ≤ 40000000 ∧ m ≤ 1000 ∧ w ≤ 1000 ∧ ds.length + m * (mu (colF R c) t (m - t) + 1) < 1000000 ∧ LamX.Tabs T H ∧
  ∀ H' R' ds' b, Chg T L D H H' → Work K H' L D R' ds' → Run m w R0 ds' R' → BelowOk m w t c R R' b Ps M → ds'.length ≤ ds.length + m * (mu (colF R c) t (m - t) + 1) → Q (.bl b) H'
def nz (R : List Row) (c lo m : Nat) : List Nat := ((List.range (m - lo)).map fun i => lo + i).filter fun a => decide (ent R a c ≠ 0)
theorem mem_nz {R : List Row} {c lo m a : Nat} : a ∈ nz R c lo m ↔ lo ≤ a ∧ a < m ∧ ent R a c ≠ 0 := by
  unfold nz
  rw [List.mem_filter, List.mem_map, decide_eq_true_eq]
  constructor
  · rintro ⟨⟨i, hi, rfl⟩, h⟩
    have := List.mem_range.mp hi
    exact ⟨by omega, by omega, h⟩
  · rintro ⟨h1, h2, h3⟩
    exact ⟨⟨a - lo, List.mem_range.mpr (by omega), by omega⟩, h3⟩
/-- [at for at in range(lo, m) if rows[at][column] != 0] -/
theorem some_lc {σ : L2.St} {H : Hp} {L D : Addr} {m w' c lo : Nat} {R : List Row} {ds : List Deed} {ta : TA} {Q : VK} {x2 u4 u5 u6 u7 : Option V} (W : Work K H L D R ds) (tab : Tab m w' R) (hc : c < w') (hm : m ≤ 1000) (hlo : lo ≤ 1000)
    (hσ : σ = [some (.ref L), some (.ref D), x2, some (.int (c : Int)), u4, u5, u6, u7]) (ha : ∀ Q : List V → Hp → Prop, Q [.int (lo : Int), .int (m : Int)] H → ta σ H Q)
    (k : ∀ H' p, Ex T H H' → H' p = some (.lst ((nz R c lo m).map fun (a : Nat) => V.int (a : Int))) → Q (.ref p) H') {vs : List Nat} (hvs : vs = [6] := by rfl) :
    tLc (iRgN2 ta) (gName 6) (tTest (tOp rNe (tOp (rLRow K) (tOp (rLk K) (tVar 0) (tVar 6)) (tVar 3)) (tC (.int 0)))) (tVar 6) vs σ H Q := by
  subst hσ hvs
  refine ha _ ⟨_, _, lo, m, rfl, rfl, rfl, by omega, by omega, fun E' hE => ?_⟩
  refine lc_go (T := T) walk_N hE (by omega) (fun i acc _ => acc = (((List.range i).map fun i => lo + i).filter fun a => decide (ent R a c ≠ 0)).map fun (a : Nat) => V.int (a : Int)) rfl (fun _ _ => trivial) ?_ fun acc H1 hE1 e _ hacc => k _ _ e (by rw [hE1, hacc]; rfl)
  rintro i x acc H1 H2 hi hacc _ e p ⟨rfl, rfl⟩ K1 K0 h1 h0
  refine ⟨rfl, et_ne (ep_cell (W.mono e) tab (ep_var rfl) (ep_var rfl) rfl (show lo + i < m by omega) (ep_var rfl) rfl hc) ep_c _ ?_⟩
  refine ite2 (fun hne => ⟨_, rfl, h1 _ _ (.refl _) ?_⟩) fun heq => h0 _ (.refl _) ?_
  · subst p
    rw [List.range_succ, List.map_append, List.filter_append, List.map_append]
    simp only [List.map_cons, List.map_nil, List.filter_cons, List.filter_nil, hne, if_true]
  · subst p
    rw [List.range_succ, List.map_append, List.filter_append, List.map_append]
    simp only [List.map_cons, List.map_nil, List.filter_cons, List.filter_nil, heq, if_false, List.append_nil, Bool.false_eq_true]
def BelowSt (T : TabL) (K : PySem.W.Frag) (L D : Addr) (H : Hp) (m w t c Ps X0 C0 : Nat) (R0 Rs : List Row) (n : Nat) (σ : L2.St) (H' : Hp) : Prop :=
  ∃ (R1 : List Row) (ds1 : List Deed) (M1 X1 lo : Nat) (p : Addr) (u5 u6 u7 : Option V), Chg T L D H H' ∧ Work K H' L D R1 ds1 ∧ Run m w R0 ds1 R1 ∧ Mid m w t c Rs R1 M1 X1 Ps ∧ X1 ≤ X0 ∧
    (lo = t ∨ lo = t + 1 ∧ ent R1 t c ≠ 0 ∧ ∀ i, t ≤ i → (ent R1 i c).natAbs ≤ (ent R1 t c).natAbs) ∧ H' p = some (.lst ((nz R1 c lo m).map fun (a : Nat) => V.int (a : Int))) ∧
    (nz R1 c lo m = [] → lo = t + 1 ∧ n = 0) ∧ (nz R1 c lo m ≠ [] → n = mu (colF R1 c) t (m - t) + 1) ∧ ds1.length + m * n ≤ C0 ∧ LamX.Tabs T H' ∧
    σ = [some (.ref L), some (.ref D), some (.int (t : Int)), some (.int (c : Int)), some (.ref p), u5, u6, u7]
theorem sc_clear_below : FnScope ["rows", "deeds", "top", "column", "some", "least", "at", "many"] ["rows", "deeds", "top", "column"] (defScope s_clear_below) := ⟨rfl, rfl, rfl, by decide +kernel, rfl, by decide +kernel, by decide +kernel⟩
theorem ok_clear_below {cd Pt : Addr} (DC : DefC K mg base "clear_below" s_clear_below cd Pt) (hmT : (Pt, lamQ "clear_below" s_clear_below) ∈ T) (hu : ∀ q ∈ T, q.1 = Pt → q.2 = lamQ "clear_below" s_clear_below) (c_lead_on : C8.Cal P w K mg base 1 "lead_on" (spLeadOn T K) []) (B : Bi mg) : C8.Cal P w K mg base 3 "clear_below" (spBelow T K) [] := by
  refine DC.cal sc_clear_below (fun vs H Q E h => ?_) (fun _ _ _ _ _ _ us hl => match us, hl with | [_, _, _, _], _ => rfl) (fun f A outer s H vs Q E hr h => ?_)
  · obtain ⟨L, D, m, w', t, c, M, A', Ps, R0, R, ds, rfl, _⟩ := h
    rfl
  obtain ⟨L, D, m, w', t, c, M, A', Ps, R0, R, ds, rfl, W, run, ht, hc, mid, hM9, hPs, hA, hm, hw, hz, hT, k⟩ := h
  refine ⟨_,
  (pss_cons (ps_setLc (i := 4) (own := [("at", 6)]) (by rfl) sc_clear_below.nd rfl rfl (sw_true rfl rfl rfl (by decide +kernel)) (pi_rgN2 rfl B.range (pa_cons (pv 2) (pa_cons (pe_callB (call_lenN K) (by rfl) B.len PySem.boot_len (pa_cons (pv 0) pa_nil)) pa_nil))) (blkOk_by (own := [("at", 6)]) (N := ["rows", "deeds", "top", "column", "some", "least", "at", "many"]) (sc := defScope s_clear_below) (by decide +kernel)) (fun _ _ _ _ _ => (pg_name (i := 6) sc_clear_below.nd rfl (by first | exact Or.inl rfl | exact Or.inr rfl))) (fun _ _ _ _ _ => (pts_one (pt_cmpR op_ne (pe_ix (ix_lrow K) (pe_ix (ix_l K) (pv 0) (pv 6) (fun _ _ => rfl)) (pv 3) (fun _ _ => rfl)) pe_int (nomark _)))) (fun _ _ _ _ _ => (pv 6)))
  (Evl.pss_cut (ps_if (pt_cmpR (op_eqD (room_eq hr)) (pv 4) (pe_lst pa_nil) (nomark _))
    (pss_one (ps_ret pe_bl))
    pss_nil)
  (pss_cons (ps_while PassesOwn.never (pt_cmpR (op_neD (room_eq hr)) (pv 4) (pe_lst pa_nil) (nomark _))
    (pss_cons (ps_set (i := 5) sc_clear_below.nd rfl (by first | exact Or.inl rfl | exact Or.inr rfl) (pe_minrow (k := 1) (ir := 0) (ic := 3) hr rfl (by rfl) B.min B.abs (pv 4) DC.tab rfl hmT hu (lamP_by (sc := defScope s_clear_below) (by decide +kernel)) (kn2 rfl rfl rfl rfl rfl rfl rfl) rfl (fun _ _ _ _ _ _ => rfl)))
    (Evl.pss_cut (ps_if (pt_cmpR op_ne (pv 5) (pv 2) (nomark _))
      (pss_one (ps_expr (C8.pe_c c_lead_on hr (by decide) rfl (pa_cons (pv 0) (pa_cons (pv 1) (pa_cons (pe_tup (pa_cons pe_str (pa_cons (pv 2) (pa_cons (pv 5) pa_nil)))) pa_nil))))))
      pss_nil)
    (pss_cons (ps_for PassesOwn.never rfl (pi_rgN2 rfl B.range (pa_cons (pe_op op_add (pv 2) pe_int) (pa_cons (pe_callB (call_lenN K) (by rfl) B.len PySem.boot_len (pa_cons (pv 0) pa_nil)) pa_nil))) (pg_name (i := 6) sc_clear_below.nd rfl (by first | exact Or.inl rfl | exact Or.inr rfl))
      (pss_cons (ps_set (i := 7) sc_clear_below.nd rfl (by first | exact Or.inl rfl | exact Or.inr rfl) (pe_op op_fdivB (pe_ix (ix_lrow K) (pe_ix (ix_l K) (pv 0) (pv 6) (fun _ _ => rfl)) (pv 3) (fun _ _ => rfl)) (pe_ix (ix_lrow K) (pe_ix (ix_l K) (pv 0) (pv 2) (fun _ _ => rfl)) (pv 3) (fun _ _ => rfl))))
      (pss_one (ps_if (pt_cmpR op_ne (pv 7) pe_int (nomark _))
        (pss_one (ps_expr (C8.pe_c c_lead_on hr (by decide) rfl (pa_cons (pv 0) (pa_cons (pv 1) (pa_cons (pe_tup (pa_cons pe_str (pa_cons (pv 6) (pa_cons (pv 2) (pa_cons (pe_op op_sub pe_int (pv 7)) pa_nil))))) pa_nil))))))
        pss_nil))))
    (pss_one (ps_setLc (i := 4) (own := [("at", 6)]) (by rfl) sc_clear_below.nd rfl rfl (sw_true rfl rfl rfl (by decide +kernel)) (pi_rgN2 rfl B.range (pa_cons (pe_op op_add (pv 2) pe_int) (pa_cons (pe_callB (call_lenN K) (by rfl) B.len PySem.boot_len (pa_cons (pv 0) pa_nil)) pa_nil))) (blkOk_by (own := [("at", 6)]) (N := ["rows", "deeds", "top", "column", "some", "least", "at", "many"]) (sc := defScope s_clear_below) (by decide +kernel)) (fun _ _ _ _ _ => (pg_name (i := 6) sc_clear_below.nd rfl (by first | exact Or.inl rfl | exact Or.inr rfl))) (fun _ _ _ _ _ => (pts_one (pt_cmpR op_ne (pe_ix (ix_lrow K) (pe_ix (ix_l K) (pv 0) (pv 6) (fun _ _ => rfl)) (pv 3) (fun _ _ => rfl)) pe_int (nomark _)))) (fun _ _ _ _ _ => (pv 6))))))))
  (pss_one (ps_ret pe_bl))))), ?_⟩
  have hrun := run.tab
  have mu0 : 0 < w' := by omega
  refine seq_asg (some_lc (T := T) (lo := t) W hrun hc hm (by omega) rfl (fun Q q => ⟨_, rfl, ep_lenW W hrun (ep_var rfl) _ q⟩) fun H1 p1 e1 h1 => ?_)
  -- the first test
  have dpn : ∀ (l : List Nat) (H' : Hp), DpAll K H' (l.map fun (a : Nat) => V.int (a : Int)) ((l.map fun (a : Nat) => (a : Int)).map PyData.int) := fun l H' => by rw [nat_ints]; exact dpAll_ints _
  have W1 := W.mono e1
  refine ⟨fun σ H2 => nz R c t m ≠ [] ∧ Ex T H H2 ∧ H2 p1 = some (.lst ((nz R c t m).map fun (a : Nat) => V.int (a : Int))) ∧ σ = [some (.ref L), some (.ref D), some (.int (t : Int)), some (.int (c : Int)), some (.ref p1), none, none, none], ?_, ?_⟩
  · refine t_eqnil (T := T) rfl (.of h1) (fun H' _ => dpn _ H') (shaped_ints _) fun H2 e2 => ?_
    refine ite2 (fun he => ?_) fun hne => ?_
    · have he : nz R c t m = [] := by simpa using he
      refine k H2 R ds false (.of (e1.trans e2)) (W1.mono e2) run ⟨fun _ => ⟨rfl, fun i hi => ?_⟩, fun z => Bool.noConfusion z, fun _ _ _ => rfl, mid.zero, fun i j => Nat.le_trans (mid.bd i j) mid.le.1, mid.x t (Nat.le_refl _)⟩ (by omega)
      by_cases him : i < m
      · by_cases z : ent R i c = 0
        · exact z
        · have := (mem_nz (R := R) (c := c) (lo := t) (m := m)).mpr ⟨hi, him, z⟩
          rw [he] at this; cases this
      · exact ent_out1 hrun (by omega)
    · have hne : nz R c t m ≠ [] := by simpa using hne
      exact ⟨hne, e1.trans e2, e2.lst h1, rfl⟩
  rintro σ H2 ⟨hne0, e2, h2, rfl⟩
  have htm : t < m := by
    cases q : nz R c t m with
    | nil => exact absurd q hne0
    | cons a l =>
      have : a ∈ nz R c t m := by rw [q]; exact List.mem_cons_self
      have := mem_nz.mp this
      omega
  refine ⟨BelowSt T K L D H m w' t c Ps M (ds.length + m * (mu (colF R c) t (m - t) + 1)) R0 R, ⟨_, R, ds, M, M, t, p1, _, _, _, .of e2, W.mono e2, run, mid, Nat.le_refl _, .inl rfl, h2, fun z => absurd z hne0, fun _ => rfl, Nat.le_refl _, e2.tabs hT, rfl⟩, ?_⟩
  rintro n σ H3 ⟨R1, ds1, M1, X1, lo, p, u5, u6, u7, ch, W', run', mid', hX, hlo, hp, hnil, hcons, hlen, hT3, rfl⟩
  have ch0 := ch
  refine t_nenil (T := T) rfl (.of hp) (fun H' _ => dpn _ H') (shaped_ints _) fun H4 e4 => ?_
  refine ite2 (fun hq => ?_) fun hq => ?_
  · have hq : nz R1 c lo m ≠ [] := by simpa using hq
    have hn := hcons hq
    refine ⟨fun σ' H' => ∃ m', m' < n ∧ BelowSt T K L D H m w' t c Ps M (ds.length + m * (mu (colF R c) t (m - t) + 1)) R0 R m' σ' H', fun _ _ h => h, ?_⟩
    have W4 := W'.mono e4
    obtain ⟨as, das, g1, g2, g3, g4⟩ := W4.ex
    -- the least
    have tn := g3.length
    refine ⟨_, rfl, e4.tabs hT3, p, L, nz R1 c lo m, as, R1, c, rfl, e4.lst hp, rfl, rfl, g1, g3.imp fun _ _ h => h.1, hq, fun a ha => ?_, e4.tabs hT3, fun H5 l e5 hl hmin => ?_⟩
    · have := mem_nz.mp ha
      exact ⟨by rw [run'.tab.len]; omega, by rw [getD_len run'.tab this.2.1]; exact hc⟩
    obtain ⟨hl1, hl2, hl3⟩ := mem_nz.mp hl
    have hlot : t ≤ lo := by rcases hlo with h | ⟨h, _⟩ <;> omega
    have hall : ∀ i, t ≤ i → ent R1 i c ≠ 0 → (ent R1 l c).natAbs ≤ (ent R1 i c).natAbs := fun i hi hz => by
      have him : i < m := by
        by_cases q : i < m
        · exact q
        · exact absurd (ent_out1 run'.tab (by omega)) hz
      by_cases hi2 : lo ≤ i
      · exact hmin i (mem_nz.mpr ⟨hi2, him, hz⟩)
      · rcases hlo with h | ⟨h, h3, h4⟩
        · omega
        · have : i = t := by omega
          subst this
          exact h4 l (by omega)
    have ch5 := (ch.trans (.of e4)).trans (.of e5)
    have W5 := W4.mono e5
    have hT5 := e5.tabs (e4.tabs hT3)
    have hp5 := e5.lst (e4.lst hp)
    have hlt : ds1.length + m * n < 1000000 := by omega
    have hmn : m * 1 ≤ m * n := Nat.mul_le_mul_left _ (by omega)
    -- swapped or not
    refine ⟨fun σ H6 => ∃ R2 ds2, Chg T L D H H6 ∧ Work K H6 L D R2 ds2 ∧ Run m w' R0 ds2 R2 ∧ Mid m w' t c R R2 M1 X1 Ps ∧ ds2.length ≤ ds1.length + 1 ∧ LamX.Tabs T H6 ∧ ent R2 t c ≠ 0 ∧ (∀ i, t ≤ i → ent R2 i c ≠ 0 → (ent R2 t c).natAbs ≤ (ent R2 i c).natAbs) ∧
      mu (colF R2 c) t (m - t) = mu (colF R1 c) t (m - t) ∧ ∃ u5 u6 u7, σ = [some (.ref L), some (.ref D), some (.int (t : Int)), some (.int (c : Int)), some (.ref p), u5, u6, u7], ?_, ?_⟩
    · refine s_ifE (et_ne (ep_var rfl) (ep_var rfl)) (fun hne => ?_) fun heq => ?_
      · have hne : l ≠ t := by
          have : ((l : Int) ≠ (t : Int)) := by simpa using hne
          omega
        have ok : DeedOk m (.swap t l) := ⟨htm, hl2, by omega⟩
        refine ⟨_, rfl, _, rfl, _, rfl, _, rfl, by show 3 ≤ _; decide, fun b hb => ?_⟩
        dsimp only [tNil]
        refine lead_go (T := T) (d := .swap t l) W5 run'.tab ok trivial hm hw (by omega) hb fun H6 ch6 W6 => ?_
        have e : ∀ a j, ent (rowsB R1 (.swap t l)) a j = if a = t then ent R1 l j else if a = l then ent R1 t j else ent R1 a j := fun a j => ent_rowsB run'.tab ok a j
        refine ⟨_, _, ch5.trans ch6, W6, run'.step ok trivial, mid'.swap htm (by omega) hl2 (by omega), by simp, ch6.tabs hT5, by rw [e, if_pos rfl]; exact hl3, fun i hi hz => ?_, ?_, _, _, _, rfl⟩
        · rw [e t, if_pos rfl]
          rw [e] at hz ⊢
          by_cases h1 : i = t
          · rw [if_pos h1] at hz ⊢; exact Nat.le_refl _
          · rw [if_neg h1] at hz ⊢
            by_cases h2 : i = l
            · rw [if_pos h2] at hz ⊢; exact hall t (Nat.le_refl _) hz
            · rw [if_neg h2] at hz ⊢; exact hall i hi hz
        · refine mu_swap (a := 0) (b := l - t) (by omega) (by omega) ?_ ?_ fun i h1 h2 => ?_
          · show ent _ (t + 0) c = ent R1 (t + (l - t)) c
            rw [e, if_pos (by omega)]; congr 1; omega
          · show ent _ (t + (l - t)) c = ent R1 (t + 0) c
            rw [e, if_neg (by omega), if_pos (by omega)]; congr 1
          · show ent _ (t + i) c = ent R1 (t + i) c
            rw [e, if_neg (by omega), if_neg (by omega)]
      · have heq : l = t := by
          have : ((l : Int) = (t : Int)) := by simpa using heq
          omega
        subst heq
        exact ⟨R1, ds1, ch5, W5, run', mid', by omega, hT5, hl3, hall, rfl, _, _, _, rfl⟩
    rintro σ H6 ⟨R2, ds2, ch6, W6, run6, mid6, hd6, hT6, hp6, hmin6, hmu6, v5, v6, v7, rfl⟩
    have hle6 := mid6.le
    have pX : (ent R2 t c).natAbs ≤ X1 := mid6.x t (Nat.le_refl _)
    -- the rows below
    refine ⟨_, rfl, _, _, rfl, rfl, ep_lenW W6 run6.tab (ep_var rfl) _ ⟨_, _, t + 1, m, rfl, by simp, rfl, by omega, by omega, ?_⟩⟩
    refine for_it walk_N (fun i σ H' => ∃ R3 ds3, Chg T L D H H' ∧ Work K H' L D R3 ds3 ∧ Run m w' R0 ds3 R3 ∧ Part m w' t (t + 1 + i) c R2 R3 ∧ ds3.length ≤ ds2.length + i ∧ LamX.Tabs T H' ∧ ∃ u5 u6 u7, σ = [some (.ref L), some (.ref D), some (.int (t : Int)), some (.int (c : Int)), some (.ref p), u5, u6, u7])
      ⟨R2, ds2, ch6, W6, run6, .start run6.tab, by omega, hT6, _, _, _, rfl⟩ (fun _ _ _ _ _ => trivial) ?_ ?_
    · rintro i x σ H7 H8 hi ⟨R3, ds3, ch7, W7, run7, part, hd7, hT7, y5, y6, y7, rfl⟩ ⟨rfl, rfl⟩
      have ham : t + 1 + i < m := by omega
      have et : ∀ j, ent R3 t j = ent R2 t j := fun j => by rw [part.ent, if_neg (by omega)]
      have ea : ∀ j, ent R3 (t + 1 + i) j = ent R2 (t + 1 + i) j := fun j => by rw [part.ent, if_neg (by omega)]
      have bq := quot_le (X := X1) (p := ent R2 t c) hp6 (mid6.x (t + 1 + i) (by omega))
      have bq2 : X1 / (ent R2 t c).natAbs ≤ X1 := Nat.div_le_self _ _
      refine ep_i (g := fun i j => .int (i.fdiv j)) (ep_cell W7 run7.tab (ep_var rfl) (ep_var rfl) rfl ham (ep_var rfl) rfl hc) (ep_cell W7 run7.tab (ep_var rfl) (ep_var rfl) rfl htm (ep_var rfl) rfl hc) ⟨by rw [et]; exact hp6, by rw [et]; exact Nat.lt_of_le_of_lt (Nat.le_trans pX hX) hM9⟩ _ ?_
      rw [et, ea]
      refine s_ifE (et_ne (ep_var rfl) ep_c) (fun hne => ?_) fun heq => ?_
      · refine ⟨_, rfl, _, rfl, _, rfl, _, rfl, _, rfl, _, _, rfl, rfl, by show 4 ≤ _; decide, fun b hb => ?_⟩
        have ok : DeedOk m (.add (t + 1 + i) t (0 - (ent R2 (t + 1 + i) c).fdiv (ent R2 t c))) := ⟨ham, htm, by omega⟩
        have kb : (0 - (ent R2 (t + 1 + i) c).fdiv (ent R2 t c)).natAbs < 2 ^ A' := by
          have z : (0 - (ent R2 (t + 1 + i) c).fdiv (ent R2 t c)).natAbs = ((ent R2 (t + 1 + i) c).fdiv (ent R2 t c)).natAbs := by omega
          rw [z]
          refine Nat.lt_of_le_of_lt (Nat.le_trans bq (Nat.add_le_add_right (Nat.le_trans bq2 hle6.2) 1)) ?_
          exact Nat.lt_of_succ_lt hPs
        have mul : MulD R3 (.add (t + 1 + i) t (0 - (ent R2 (t + 1 + i) c).fdiv (ent R2 t c))) := fun cc _ => by
          rw [et]
          exact mulOk_bits (b := A') kb (Nat.lt_of_le_of_lt (Nat.le_trans (mid6.bd t cc) hle6.1) (Nat.lt_of_succ_lt (Nat.lt_of_succ_lt hPs))) (by omega)
        dsimp only [tNil]
        refine lead_go (T := T) (d := .add (t + 1 + i) t (0 - (ent R2 (t + 1 + i) c).fdiv (ent R2 t c))) W7 run7.tab ok mul hm hw (by omega) hb fun H9 ch9 W9 => ?_
        exact ⟨_, _, ch7.trans ch9, W9, run7.step ok mul, part.step (by omega) ham, by simp; omega, ch9.tabs hT7, _, _, _, rfl⟩
      · have hz0 : (ent R2 (t + 1 + i) c).fdiv (ent R2 t c) = 0 := by simpa using heq
        exact ⟨R3, ds3, ch7, W7, run7, part.skip hz0, by omega, hT7, _, _, _, rfl⟩
    · rintro σ H7 ⟨R3, ds3, ch7, W7, run7, part, hd7, hT7, y5, y6, y7, rfl⟩
      have part' : Part m w' t m c R2 R3 := by
        have : t + 1 + (m - (t + 1)) = m := by omega
        rw [this] at part; exact part
      obtain ⟨⟨M', X', hX', mid7⟩, hp7, hx7, hfall⟩ := mid6.turned htm hp6 hmin6 part'
      dsimp only
      refine asg_of (some_lc (T := T) (lo := t + 1) W7 run7.tab hc hm (by omega) rfl (fun Q q => ⟨_, rfl, _, _, rfl, rfl, ep_lenW W7 run7.tab (ep_var rfl) _ q⟩) fun H8 p8 e8 h8 => ?_)
      have hzero : nz R3 c (t + 1) m ≠ [] → mu (colF R3 c) t (m - t) + 1 ≤ mu (colF R2 c) t (m - t) := fun hz => hfall (by
        cases q : nz R3 c (t + 1) m with
        | nil => exact absurd q hz
        | cons a l =>
          have : a ∈ nz R3 c (t + 1) m := by rw [q]; exact List.mem_cons_self
          have := mem_nz.mp this
          exact ⟨a, by omega, this.2.1, this.2.2⟩)
      have fin : ∀ n', n' < n → (nz R3 c (t + 1) m = [] → n' = 0) → (nz R3 c (t + 1) m ≠ [] → n' = mu (colF R3 c) t (m - t) + 1) → ∃ m', m' < n ∧ BelowSt T K L D H m w' t c Ps M (ds.length + m * (mu (colF R c) t (m - t) + 1)) R0 R m' [some (.ref L), some (.ref D), some (.int (t : Int)), some (.int (c : Int)), some (.ref p8), y5, y6, y7] H8 := fun n' h1 h2 h3 => by
        refine ⟨n', h1, R3, ds3, M', X', t + 1, p8, _, _, _, ch7.trans (.of e8), W7.mono e8, run7, mid7, Nat.le_trans hX' hX, .inr ⟨rfl, hp7, hx7⟩, h8, fun z => ⟨rfl, h2 z⟩, h3, ?_, e8.tabs hT7, rfl⟩
        have : m * (n' + 1) ≤ m * n := Nat.mul_le_mul_left _ h1
        have q2 : m * (n' + 1) = m * n' + m := Nat.mul_succ _ _
        omega
      by_cases hz : nz R3 c (t + 1) m = []
      · exact fin 0 (by omega) (fun _ => rfl) fun h => absurd hz h
      · have := hzero hz
        exact fin (mu (colF R3 c) t (m - t) + 1) (by omega) (fun h => absurd h hz) fun _ => rfl
  · have hq : nz R1 c lo m = [] := by simpa using hq
    obtain ⟨hlo1, hn0⟩ := hnil hq
    obtain ⟨h3, h4⟩ : ent R1 t c ≠ 0 ∧ ∀ i, t ≤ i → (ent R1 i c).natAbs ≤ (ent R1 t c).natAbs := by
      rcases hlo with h | ⟨_, h3, h4⟩
      · omega
      · exact ⟨h3, h4⟩
    have hle := mid'.le
    refine k H4 R1 ds1 true (ch.trans (.of e4)) (W'.mono e4) run' ⟨fun z => Bool.noConfusion z, fun _ => ⟨h3, fun i hi => ?_⟩, mid'.keep, mid'.zero, fun i j => Nat.le_trans (mid'.bd i j) hle.1, Nat.le_trans (mid'.x t (Nat.le_refl _)) hX⟩ (by omega)
    by_cases him : i < m
    · by_cases z : ent R1 i c = 0
      · exact z
      · have := (mem_nz (R := R1) (c := c) (lo := lo) (m := m)).mpr ⟨by omega, him, z⟩
        rw [hq] at this; cases this
    · exact ent_out1 run'.tab (by omega)
end
end K94

set_option Elab.async false
set_option linter.all false
/-! M7: columns led to steps. -/
namespace K94
def bc : Nat → Nat
  | 0 => 6
  | c + 1 => 16 * bc c + 6
structure StepI (m w c t : Nat) (R : List Row) : Prop where
  tab : Tab m w R
  tm : t ≤ m
  tc : t ≤ c
  cw : c ≤ w
  lead : ∀ i, i < t → leadN (R.getD i []) < c ∧ 0 < lv (R.getD i []) ∧ lv (R.getD i []) ≤ 2 ^ bc (leadN (R.getD i []))
  rise : ∀ i j, i < j → j < t → leadN (R.getD i []) < leadN (R.getD j [])
  zero : ∀ j, j < c → ∀ i, t ≤ i → ent R i j = 0
  bd : ∀ i j, (ent R i j).natAbs < 2 ^ bc c
section
variable {m w c t : Nat} {R R1 R2 : List Row}
theorem StepI.start (h : Tab m w R) (hb : Bd 50 R) : StepI m w 0 0 R := ⟨h, Nat.zero_le _, Nat.zero_le _, Nat.zero_le _, fun i hi => absurd hi (Nat.not_lt_zero _), fun i j _ hj => absurd hj (Nat.not_lt_zero _), fun j hj => absurd hj (Nat.not_lt_zero _), fun i j => by
  have := hb i j
  show _ < 2 ^ 6
  omega⟩
theorem pow_cast (b : Nat) : ((2 : Int) ^ b) = ((2 ^ b : Nat) : Int) := by norm_cast
theorem bc_mono (c : Nat) : bc c ≤ bc (c + 1) := by show _ ≤ 16 * bc c + 6; omega
theorem pow_le {a b n : Nat} (h : n < 2 ^ a) (hab : a ≤ b) : n < 2 ^ b := Nat.lt_of_lt_of_le h (Nat.pow_le_pow_right (by decide) hab)
theorem StepI.mid (h : StepI m w c t R) (hm : m ≤ 3) : Mid m w t c R R (2 ^ bc c) (2 ^ bc c) (2 ^ (8 * bc c + 2)) ∧ mu (colF R c) t (m - t) ≤ 3 * bc c + 1 := by
  have hmu : mu (colF R c) t (m - t) ≤ (m - t) * bc c + 1 := mu_le fun i _ => h.bd (t + i) c
  have hmu2 : (m - t) * bc c ≤ 3 * bc c := Nat.mul_le_mul_right _ (by omega)
  refine ⟨⟨h.tab, fun _ _ _ => rfl, h.zero, fun i j => Nat.le_of_lt (h.bd i j), fun i _ => Nat.le_of_lt (h.bd i c), Nat.pow_pos (by decide), Nat.pow_pos (by decide), ?_⟩, by omega⟩
  have e4 : (4 : Nat) ^ mu (colF R c) t (m - t) = 2 ^ (2 * mu (colF R c) t (m - t)) := by rw [Nat.pow_mul]
  rw [e4, ← Nat.pow_add, ← Nat.pow_add]
  exact Nat.pow_le_pow_right (by decide) (by omega)
theorem StepI.skip (h : StepI m w c t R) (hc : c < w) (hz : ∀ i, t ≤ i → ent R i c = 0) : StepI m w (c + 1) t R :=
  ⟨h.tab, h.tm, Nat.le_succ_of_le h.tc, hc, fun i hi => ⟨Nat.lt_succ_of_lt (h.lead i hi).1, (h.lead i hi).2⟩, h.rise, fun j hj i hi => by
    by_cases e : j = c
    · subst e; exact hz i hi
    · exact h.zero j (by omega) i hi, fun i j => pow_le (h.bd i j) (bc_mono c)⟩
theorem lead_same {r s : Row} {l : Nat} (hl : leadN r = l) (hr : r.length = s.length) (hlt : l < r.length) (he : ∀ j, j ≤ l → rf s j = rf r j) : leadN s = l ∧ lv s = lv r := by
  have h1 : leadN s = l := leadN_eq (by omega) (fun i hi => by rw [he i (by omega)]; exact leadN_before r i (by omega)) (by rw [he l (Nat.le_refl _), ← hl]; exact leadN_ne r (by omega))
  exact ⟨h1, by unfold lv; rw [h1, hl]; exact he l (Nat.le_refl _)⟩
theorem StepI.yes (h : StepI m w c t R) (hc : c < w) (ht : t < m) (t1 : Tab m w R1) (keep : ∀ i, i < t → ∀ j, ent R1 i j = ent R i j) (zero : ∀ j, j < c → ∀ i, t ≤ i → ent R1 i j = 0)
    (low : ∀ i, t < i → ent R1 i c = 0) (piv : (ent R1 t c).natAbs ≤ 2 ^ bc c) (bd : Bd (2 ^ (8 * bc c + 2)) R1)
    (t2 : Tab m w R2) (top : ∃ s : Int, (s = 1 ∨ s = -1) ∧ (∀ j, ent R2 t j = s * ent R1 t j) ∧ 0 < ent R2 t c) (up : ∀ i, i < t → ∃ k : Int, k.natAbs ≤ 2 ^ (8 * bc c + 2) + 1 ∧ ∀ j, ent R2 i j = ent R1 i j + k * ent R2 t j) (low2 : ∀ i, t < i → ∀ j, ent R2 i j = ent R1 i j) :
    StepI m w (c + 1) (t + 1) R2 := by
  obtain ⟨s, hs, htop, hpos⟩ := top
  have tz : ∀ j, j < c → ent R2 t j = 0 := fun j hj => by rw [htop, zero j hj t (Nat.le_refl _)]; simp
  have labs : ∀ j, (ent R2 t j).natAbs = (ent R1 t j).natAbs := fun j => by
    rw [htop]
    rcases hs with rfl | rfl
    · simp
    · rw [Int.natAbs_mul]; simp
  have lrow : ∀ i, i < t → leadN (R2.getD i []) = leadN (R.getD i []) ∧ lv (R2.getD i []) = lv (R.getD i []) := fun i hi => by
    obtain ⟨h1, _⟩ := h.lead i hi
    have l0 := getD_len h.tab (i := i) (by omega)
    refine lead_same rfl (by rw [l0, getD_len t2 (by omega)]) (by omega) fun j hj => ?_
    obtain ⟨k, _, hk⟩ := up i hi
    show ent R2 i j = ent R i j
    rw [hk, keep i hi, tz j (by omega)]; simp
  have lt : leadN (R2.getD t []) = c ∧ lv (R2.getD t []) = ent R2 t c := by
    have e : leadN (R2.getD t []) = c := leadN_eq (by rw [getD_len t2 ht]; exact hc) (fun i hi => tz i hi) (by show ent R2 t c ≠ 0; omega)
    exact ⟨e, by unfold lv; rw [e]; rfl⟩
  refine ⟨t2, ht, Nat.succ_le_succ h.tc, hc, fun i hi => ?_, fun i j hij hj => ?_, fun j hj i hi => ?_, fun i j => ?_⟩
  · by_cases e : i = t
    · subst e
      rw [lt.1, lt.2]
      have := labs c
      have h9 : (ent R2 i c).natAbs ≤ 2 ^ bc c := by rw [this]; exact piv
      have e := pow_cast (bc c)
      rw [e]
      generalize (2 : Nat) ^ bc c = z at h9 ⊢
      refine ⟨by omega, hpos, ?_⟩
      omega
    · obtain ⟨e1, e2⟩ := lrow i (by omega)
      rw [e1, e2]
      have := h.lead i (by omega)
      exact ⟨by omega, this.2⟩
  · rw [(lrow i (by omega)).1]
    by_cases e : j = t
    · subst e; rw [lt.1]; exact (h.lead i hij).1
    · rw [(lrow j (by omega)).1]; exact h.rise i j hij (by omega)
  · rw [low2 i (by omega)]
    by_cases e : j = c
    · subst e; exact low i (by omega)
    · exact zero j (by omega) i (by omega)
  · have P1 : ∀ i j, (ent R1 i j).natAbs ≤ 2 ^ (8 * bc c + 2) := bd
    have big : 2 ^ (8 * bc c + 2) + (2 ^ (8 * bc c + 2) + 1) * 2 ^ (8 * bc c + 2) < 2 ^ bc (c + 1) := by
      show _ < 2 ^ (16 * bc c + 6)
      have e1 : (2 : Nat) ^ (16 * bc c + 6) = 2 ^ (8 * bc c + 2) * 2 ^ (8 * bc c + 2) * 4 := by
        rw [← Nat.pow_add, show (4 : Nat) = 2 ^ 2 by decide, ← Nat.pow_add]; congr 1; omega
      rw [e1]
      have h1 : 1 ≤ 2 ^ (8 * bc c + 2) := Nat.pow_pos (by decide)
      generalize 2 ^ (8 * bc c + 2) = z at h1 ⊢
      have h2 : 1 * z ≤ z * z := Nat.mul_le_mul_right _ h1
      rw [Nat.add_mul]
      omega
    have hge : 2 ^ (8 * bc c + 2) ≤ 2 ^ (8 * bc c + 2) + (2 ^ (8 * bc c + 2) + 1) * 2 ^ (8 * bc c + 2) := Nat.le_add_right _ _
    by_cases h1 : i < t
    · obtain ⟨k, hk1, hk⟩ := up i h1
      rw [hk]
      have q1 : (k * ent R2 t j).natAbs ≤ (2 ^ (8 * bc c + 2) + 1) * 2 ^ (8 * bc c + 2) := by
        rw [Int.natAbs_mul]; exact Nat.mul_le_mul hk1 (by rw [labs]; exact P1 t j)
      have q2 := P1 i j
      have q3 : (ent R1 i j + k * ent R2 t j).natAbs ≤ (ent R1 i j).natAbs + (k * ent R2 t j).natAbs := Int.natAbs_add_le _ _
      exact Nat.lt_of_le_of_lt (Nat.le_trans q3 (Nat.add_le_add q2 q1)) big
    · by_cases h2 : i = t
      · subst h2
        rw [labs]
        exact Nat.lt_of_le_of_lt (Nat.le_trans (P1 i j) hge) big
      · rw [low2 i (by omega)]
        exact Nat.lt_of_le_of_lt (Nat.le_trans (P1 i j) hge) big
/-- rows in steps -/
structure StepsOf (m w : Nat) (R S : List Row) (t : Nat) : Prop where
  tab : Tab m w S
  same : Same S R
  tm : t ≤ m
  ech : Ech w (S.take t)
  small : ∀ f ∈ S.take t, lv f ≤ 2 ^ bc (leadN f)
  nought : ∀ i, t ≤ i → ∀ j, ent S i j = 0
  bd : ∀ i j, (ent S i j).natAbs < 2 ^ 30000
theorem mem_take {S : List Row} (h : Tab m w S) (ht : t ≤ m) {f : Row} (hf : f ∈ S.take t) : ∃ i, i < t ∧ S.getD i [] = f := by
  obtain ⟨i, hi, e⟩ := List.getElem_of_mem hf
  rw [List.length_take, h.len] at hi
  refine ⟨i, by omega, ?_⟩
  rw [List.getElem_take] at e
  simp [← e, show i < S.length by rw [h.len]; omega]
theorem StepI.ends (h : StepI m w w t R) (hw : w ≤ 3) {R0 : List Row} (same : Same R R0) : StepsOf m w R0 R t := by
  have len : (R.take t).length = t := by rw [List.length_take, h.tab.len]; have := h.tm; omega
  have get : ∀ i (hi : i < (R.take t).length), (R.take t)[i] = R.getD i [] := fun i hi => by
    rw [List.getElem_take]
    simp [show i < R.length by rw [h.tab.len]; have := h.tm; omega]
  refine ⟨h.tab, same, h.tm, ⟨fun f hf => h.tab.wid f (List.mem_of_mem_take hf), fun f hf => ?_, ?_⟩, fun f hf => ?_, fun i hi j => ?_, fun i j => pow_le (h.bd i j) ?_⟩
  · obtain ⟨i, hi, rfl⟩ := mem_take h.tab h.tm hf
    exact ⟨(h.lead i hi).1, (h.lead i hi).2.1⟩
  · rw [List.pairwise_iff_getElem]
    intro i j hi hj hij
    rw [get i hi, get j hj]
    exact h.rise i j hij (by omega)
  · obtain ⟨i, hi, rfl⟩ := mem_take h.tab h.tm hf
    exact (h.lead i hi).2.2
  · by_cases hj : j < w
    · exact h.zero j hj i hi
    · exact ent_out2 h.tab (by omega)
  · have : bc w ≤ bc 3 := by
      have : ∀ n, bc n ≤ bc (n + 1) := bc_mono
      rcases (show w = 0 ∨ w = 1 ∨ w = 2 ∨ w = 3 by omega) with rfl | rfl | rfl | rfl <;> decide
    have : bc 3 = 26214 := by decide
    omega
end
end K94

set_option Elab.async false
set_option linter.all false
set_option maxRecDepth 100000
set_option maxHeartbeats 4000000
namespace K94
open PySem PySem.Spec PyProof.Rows L2
section
variable {P : Program} {w : World} {K : PySem.W.Frag} {mg : Str → Option Value} {base : Heap} {T : TabL}
/-! ### free but for a table -/
def Fr0 (H : Hp) (p : Addr) : Prop := ∀ o, H p = some o → ∃ ps, o = HO.tbl ps
theorem Fr0.of {H : Hp} {p : Addr} (h : H p = none) : Fr0 H p := fun o e => by rw [h] at e; cases e
theorem Ex.fr0 {H H' : Hp} {p : Addr} (x : Ex T H H') (h : H' p = none) : Fr0 H p := fun o e => by
  by_cases q : ∃ ps, o = HO.tbl ps
  · exact q
  · have := x.ext p o e fun ps z => q ⟨ps, z⟩
    rw [h] at this; cases this
theorem Fr0.back {H H' : Hp} {p : Addr} (h : Fr0 H' p) (x : Ex T H H') : Fr0 H p := fun o e => by
  by_cases q : ∃ ps, o = HO.tbl ps
  · exact q
  · exact h o (x.ext p o e fun ps z => q ⟨ps, z⟩)
theorem Ex.mut0 {H H' : Hp} {p : Addr} {o u : HO} (x : Ex T H H') (h : Fr0 H p) (hp : H' p = some u) (q : Plain u) : Ex T H (upd H' p o) :=
  ⟨fun b v e n => by
    have nb : b ≠ p := by
      rintro rfl
      obtain ⟨ps, z⟩ := h v e
      exact n ps z
    rw [upd_ne nb]; exact x.ext b v e n, fun t => tabs_new (x.tabs t) fun b v e k => by
    have nb : b ≠ p := by
      rintro rfl
      rw [hp] at e
      cases e
      rcases k with ⟨ps, k⟩ | ⟨c, z, k⟩
      · exact q.1 ps k
      · exact q.2 c z k
    rw [upd_ne nb]; exact e⟩
theorem Chg.ex0 {L D : Addr} {H0 H H' : Hp} (x : Ex T H0 H) (y : Chg T L D H H') (hL : Fr0 H0 L) (hD : Fr0 H0 D) : Ex T H0 H' :=
  ⟨fun b o e n => y.ext b o (by rintro rfl; obtain ⟨ps, z⟩ := hL o e; exact n ps z) (by rintro rfl; obtain ⟨ps, z⟩ := hD o e; exact n ps z) (x.ext b o e n) n, fun t => y.tabs (x.tabs t)⟩
section
variable {J : It} {n : Nat} {G : Hp → Prop} {Y : Nat → Hp → V → Hp → Prop} {β : Type} {A : Hp → Addr → β → Prop}
/-- lc_obj, the list at D told in the turn -/
theorem lc_objD (w : Walk J n G Y) {g : TG} {te : TE} {vs : List Nat} {σ : L2.St} {H1 : Hp} {D : Addr} {Qd : Hp → Prop} (hD : H1 D = none) (hn : n ≤ 1000000) (f : Nat → β)
    (st : ∀ H H' p b, A H p b → Ex T H H' → A H' p b) (st2 : ∀ H p b l l', A H p b → H D = some (.lst l) → A (upd H D (.lst l')) p b)
    (hG : ∀ H', Ex T H1 H' → G H')
    (hs : ∀ i x H H' l, i < n → H D = some (.lst l) → Ex T H1 H → Y i H x H' → ∀ K1 : VK, (∀ p H4, Ex T H H4 → A H4 p (f i) → K1 (.ref p) H4) → g x (wipe σ vs) H' fun σ2 H2 => wipe σ2 vs = wipe σ vs ∧ te σ2 H2 K1)
    (mono : ∀ x σ2 H2 (Q Q' : L2.St → Hp → Prop), (∀ σ H, Q σ H → Q' σ H) → g x σ2 H2 Q → g x σ2 H2 Q')
    (hd : ∀ as H, H D = some (.lst (as.map V.ref)) → All2 (A H) as ((List.range n).map f) → Ex T H1 H → Qd H) :
    ∃ W : Nat → Nat → Hp → Prop, (∃ m, W 0 m (upd H1 D (.lst []))) ∧ ∀ i m H, W i m H →
      (J.stop i H ∧ Qd H) ∨ (J.go i H ∧ ∃ Nx : Hp → Prop, (∀ H', Nx H' → ∃ m', m' < m ∧ W (i + 1) m' H') ∧ ∀ x H', J.yld i H x H' → g x (wipe σ vs) H' fun σ2 H2 => wipe σ2 vs = wipe σ vs ∧ tYes σ2 H2 fun b H3 =>
        if b = true then te σ2 H3 fun y H4 => ∃ acc, H4 D = some (.lst acc) ∧ acc.length < sizeLine ∧ Nx (upd H4 D (.lst (acc ++ [y]))) else Nx H3) :=
  lc_go w hD hn (fun i acc H => ∃ as : List Addr, acc = as.map V.ref ∧ All2 (A H) as ((List.range i).map f)) ⟨[], rfl, .nil⟩ hG
    (fun i x acc H H' hi hl _ e ⟨as, p, al⟩ y K1 K0 h1 _ => mono _ _ _ _ _ (fun σ2 H2 ⟨q1, q2⟩ => ⟨q1, iteT (B := K0 H2) q2⟩) (hs i x H H' _ hi hl e y K1 fun q H4 e4 a4 =>
      h1 _ _ e4 ⟨as ++ [q], by rw [p, List.map_append]; rfl, ((al.imp fun _ _ h => st _ _ _ _ h e4).map_range a4).imp fun _ _ h => st2 _ _ _ _ _ h (e4.lst hl)⟩))
    fun acc H hl e _ ⟨as, p, al⟩ => hd as H (p ▸ hl) al e
end
theorem rows_range {R : List Row} : (List.range R.length).map (fun i => R.getD i []) = R := by
  refine List.ext_getElem? fun i => ?_
  by_cases hi : i < R.length
  · rw [List.getElem?_map, List.getElem?_range hi]; simp [hi]
  · rw [List.getElem?_eq_none (by simp; omega), List.getElem?_eq_none (by omega)]
/-! ### steps_deeds, steps_of -/
def spSteps (T : TabL) (K : PySem.W.Frag) : Sp := fun vs H Q _ => ∃ (a : Addr) (m w : Nat) (R : List Row), vs = [.ref a] ∧ TabAt K H a w R ∧ Tab m w R ∧ Bd 50 R ∧ m ≤ 3 ∧ w ≤ 3 ∧ LamX.Tabs T H ∧
  ∀ H' p das ds t, Ex T H H' → SqT K H' p (das.map V.ref) → DeedsAt K H' das ds → DoneOk m R ds → StepsOf m w R (rowsD R ds) t → Q (.ref p) H'
theorem sc_steps_deeds : FnScope ["table", "rows", "deeds", "top", "column", "row"] ["table"] (defScope s_steps_deeds) := ⟨rfl, rfl, rfl, by decide +kernel, rfl, by decide +kernel, by decide +kernel⟩
theorem ok_steps_deeds (F : Def K mg "steps_deeds" s_steps_deeds) (B : Bi mg) (c_clear_below : C8.Cal P w K mg base 3 "clear_below" (spBelow T K) []) (c_clear_above : C8.Cal P w K mg base 2 "clear_above" (spAbove T K) []) : C8.Cal P w K mg base 4 "steps_deeds" (spSteps T K) [] := by
  refine F.cal sc_steps_deeds (fun vs H Q E h => ?_) (fun _ _ _ _ _ _ us hl => match us, hl with | [_], _ => rfl) (fun f cdv A outer s H vs Q E hr h => ?_)
  · obtain ⟨a, m, w', R, rfl, _⟩ := h
    rfl
  obtain ⟨a, m, w', R, rfl, ⟨b, hta, rs, hrs, hrows⟩, tab, bd, hm, hw, hT, k⟩ := h
  refine ⟨_,
  (pss_cons (ps_setLc (i := 1) (own := [("row", 5)]) (by rfl) sc_steps_deeds.nd rfl rfl (sw_true rfl rfl rfl (by decide +kernel)) (pi_tK K rfl (pe_ix (ix_t K) (pv 0) pe_int (fun _ _ => rfl))) (blkOk_by (own := [("row", 5)]) (N := ["table", "rows", "deeds", "top", "column", "row"]) (sc := defScope s_steps_deeds) (by decide +kernel)) (fun _ _ _ _ _ => (pg_name (i := 5) sc_steps_deeds.nd rfl (by first | exact Or.inl rfl | exact Or.inr rfl))) (fun _ _ _ _ _ => pts_nil) (fun _ _ _ _ _ => (pe_callTy (call_lstK K) (by rfl) B.list (by decide +kernel) (pa_cons (pv 5) pa_nil))))
  (pss_cons (ps_set (i := 2) sc_steps_deeds.nd rfl (by first | exact Or.inl rfl | exact Or.inr rfl) (pe_lst pa_nil))
  (pss_cons (ps_set (i := 3) sc_steps_deeds.nd rfl (by first | exact Or.inl rfl | exact Or.inr rfl) pe_int)
  (pss_cons (ps_for PassesOwn.never rfl (pi_rgN rfl B.range (pa_cons (pe_ix (ix_t K) (pv 0) pe_int (fun _ _ => rfl)) pa_nil)) (pg_name (i := 4) sc_steps_deeds.nd rfl (by first | exact Or.inl rfl | exact Or.inr rfl))
    (pss_one (ps_if (pt_val (C8.pe_c c_clear_below hr (by decide) rfl (pa_cons (pv 1) (pa_cons (pv 2) (pa_cons (pv 3) (pa_cons (pv 4) pa_nil))))))
      (pss_cons (ps_expr (C8.pe_c c_clear_above hr (by decide) rfl (pa_cons (pv 1) (pa_cons (pv 2) (pa_cons (pv 3) (pa_cons (pv 4) pa_nil))))))
      (pss_one (ps_set (i := 3) sc_steps_deeds.nd rfl (by first | exact Or.inl rfl | exact Or.inr rfl) (pe_op op_add (pv 3) pe_int))))
      pss_nil)))
  (pss_one (ps_ret (pe_callTy (call_tupK K) (by rfl) B.tuple (by decide +kernel) (pa_cons (pv 2) pa_nil)))))))), ?_⟩
  have lr : rs.length = m := by rw [hrows.length, tab.len]
  refine seq_asg ⟨_, rfl, a, _, _, 1, _, rfl, rfl, hta, rfl, rfl, b, rfl, ⟨_, hrs⟩, fun L hL => lc_objD (T := T) (A := fun (H : Hp) (p : Addr) (r : Row) => H p = some (.lst (r.map V.int)) ∧ p ≠ L) walk_tup hL (by rw [List.length_map]; omega) (fun i => R.getD i []) (fun H H' p b h e => ⟨e.lst h.1, h.2⟩) (fun H p b l l' h _ => ⟨by rw [upd_ne h.2]; exact h.1, h.2⟩) (fun _ e => e.sqT hrs) ?_ gmono_name ?_⟩
  · rintro i x H1 H2 l hi hl e ⟨rfl, hx⟩ K1 hk
    obtain ⟨q, rfl, hq, hi'⟩ := rows_at (e.all hrows) hx
    exact ⟨rfl, _, rfl, q, _, rfl, .inr hq, fun p hp => hk p _ (.new hp) ⟨upd_same, (ne_of_none hl hp).symm⟩⟩
  intro as H1 hL1 al e
  have e3 : (List.range (rs.map V.ref).length).map (fun i => R.getD i []) = R := by
    rw [List.length_map, hrows.length]; exact rows_range
  rw [e3] at al
  refine ⟨Nat.zero_le _, fun D hD => ?_⟩
  have nLD : L ≠ D := ne_of_none hL1 hD
  have eD : Ex T H1 (upd H1 D (.lst [])) := .new hD
  have W0 : Work K (upd H1 D (.lst [])) L D R [] := ⟨nLD, as, [], by rw [upd_ne nLD]; exact hL1, upd_same, al.imp fun p r h => ⟨eD.lst h.1, h.2, ne_of_none h.1 hD⟩, .nil⟩
  have fL : Fr0 H L := .of hL
  have fD : Fr0 H D := e.fr0 hD
  have e0 : Ex T H (upd H1 D (.lst [])) := e.trans eD
  refine ⟨_, rfl, a, _, _, 0, _, rfl, rfl, e0.sqT hta, rfl, rfl, _, w', rfl, rfl, by omega, ?_⟩
  refine for_it walk_N0 (fun i σ H' => ∃ R1 ds1 t u v, Chg T L D (upd H1 D (.lst [])) H' ∧ Work K H' L D R1 ds1 ∧ Run m w' R ds1 R1 ∧ StepI m w' i t R1 ∧ ds1.length ≤ 20000 * i ∧ σ = [some (.ref a), some (.ref L), some (.ref D), some (.int (t : Int)), u, v])
    ⟨R, [], 0, _, _, .refl _, W0, .start tab, .start tab bd, by simp, rfl⟩ (fun _ _ _ _ _ => trivial) ?_ ?_
  · rintro c x σ H2 H3 hc ⟨R1, ds1, t, u, v, ch, W1, run1, st, hlen, rfl⟩ ⟨rfl, rfl⟩
    obtain ⟨mid, hmu⟩ := st.mid hm
    have hbc : bc c ≤ 1638 := by
      rcases (show c = 0 ∨ c = 1 ∨ c = 2 by omega) with rfl | rfl | rfl <;> decide
    have hT2 := ch.tabs (e0.tabs hT)
    have hmu2 : m * (mu (colF R1 c) t (m - t) + 1) ≤ 3 * (3 * bc c + 2) := Nat.mul_le_mul hm (by omega)
    refine ⟨_, rfl, _, rfl, _, rfl, _, rfl, ?_⟩
    dsimp only [tNil]
    refine ⟨L, D, m, w', t, c, 2 ^ bc c, 8 * bc c + 4, 2 ^ (8 * bc c + 2), R, R1, ds1, rfl, W1, run1, st.tm, hc, mid, Nat.pow_lt_pow_right (by decide) (by omega), ?_, by omega, by omega, by omega, by omega, hT2, fun H4 R2 ds2 b2 ch4 W4 run4 ok4 hl4 => ⟨b2, rfl, ?_⟩⟩
    · have e1 : (2 : Nat) ^ (8 * bc c + 4) = 2 ^ (8 * bc c + 2) * 4 := by rw [show (4 : Nat) = 2 ^ 2 by decide, ← Nat.pow_add]
      have h1 : 1 ≤ 2 ^ (8 * bc c + 2) := Nat.pow_pos (by decide)
      rw [e1]
      generalize 2 ^ (8 * bc c + 2) = z at h1 ⊢
      omega
    cases b2 with
    | false =>
      obtain ⟨rfl, hz0⟩ := ok4.no rfl
      exact iteF ⟨R2, ds2, t, _, _, ch.trans ch4, W4, run4, st.skip hc hz0, by omega, rfl⟩
    | true =>
      obtain ⟨hp, hlow⟩ := ok4.yes rfl
      have htm : t < m := by
        by_cases q : t < m
        · exact q
        · exact absurd (ent_out1 run4.tab (by omega)) hp
      have p17 := ok4.piv
      have p9 : (ent R2 t c).natAbs < 2 ^ 9000 := Nat.lt_of_le_of_lt p17 (Nat.pow_lt_pow_right (by decide) (by omega))
      refine iteT ⟨_, rfl, _, rfl, _, rfl, _, rfl, ?_⟩
      dsimp only [tNil]
      refine ⟨L, D, m, w', t, c, 2 ^ (8 * bc c + 2), 8 * bc c + 3, R, R2, ds2, rfl, W4, run4, htm, hc, hp, p9, ok4.bd, ?_, by omega, by omega, by omega, by omega, fun H5 R3 ds3 ch5 W5 run5 ok5 hl5 => ?_⟩
      · have e1 : (2 : Nat) ^ (8 * bc c + 3) = 2 ^ (8 * bc c + 2) * 2 := Nat.pow_succ _ _
        have h1 : 1 < 2 ^ (8 * bc c + 2) := Nat.one_lt_two_pow (by omega)
        rw [e1]
        generalize 2 ^ (8 * bc c + 2) = z at h1 ⊢
        omega
      refine ⟨_, rfl, _, _, rfl, rfl, R3, ds3, t + 1, _, _, (ch.trans ch4).trans ch5, W5, run5, ?_, by omega, rfl⟩
      exact st.yes hc htm run4.tab ok4.keep ok4.zero hlow p17 ok4.bd run5.tab ok5.top ok5.up ok5.low
  · rintro σ H2 ⟨R1, ds1, t, u, v, ch, W1, run1, st, hlen, rfl⟩
    obtain ⟨as2, das, g1, g2, g3, g4⟩ := W1.ex
    have e2 : Ex T H H2 := Chg.ex0 e0 ch fL fD
    have st' : StepsOf m w' R (rowsD R ds1) t := by
      have := st.ends hw (R0 := R) (by rw [run1.eq]; exact same_rowsD tab run1.done.ok)
      rw [run1.eq] at this; exact this
    exact ⟨_, rfl, D, _, rfl, .inl ⟨.of g2, fun p hp => k _ p das ds1 t (e2.trans (.new hp)) (sqT_of upd_same) (Ex.deeds (T := T) (.new hp) g4) run1.done st'⟩⟩
def spStepsOf (T : TabL) (K : PySem.W.Frag) : Sp := fun vs H Q _ => ∃ (a : Addr) (m w : Nat) (R : List Row), vs = [.ref a] ∧ TabAt K H a w R ∧ Tab m w R ∧ Bd 50 R ∧ m ≤ 3 ∧ w ≤ 3 ∧ LamX.Tabs T H ∧
  ∀ H' p S t, Ex T H H' → TabAt K H' p w S → StepsOf m w R S t → Q (.ref p) H'
theorem sc_steps_of : FnScope ["table"] ["table"] (defScope s_steps_of) := ⟨rfl, rfl, rfl, by decide +kernel, rfl, by decide +kernel, by decide +kernel⟩
theorem ok_steps_of (F : Def K mg "steps_of" s_steps_of) (B : Bi mg) (c_steps_deeds : C8.Cal P w K mg base 4 "steps_deeds" (spSteps T K) []) (c_done : C8.Cal P w K mg base 5 "done" (spDone T K) []) : C8.Cal P w K mg base 6 "steps_of" (spStepsOf T K) [] := by
  refine F.cal sc_steps_of (fun vs H Q E h => ?_) (fun _ _ _ _ _ _ us hl => match us, hl with | [_], _ => rfl) (fun f cdv A outer s H vs Q E hr h => ?_)
  · obtain ⟨a, m, w', R, rfl, _⟩ := h
    rfl
  obtain ⟨a, m, w', R, rfl, hta, tab, bd, hm, hw, hT, k⟩ := h
  refine ⟨_,
  (pss_one (ps_ret (C8.pe_c c_done hr (by decide) rfl (pa_cons (pv 0) (pa_cons (C8.pe_c c_steps_deeds hr (by decide) rfl (pa_cons (pv 0) pa_nil)) pa_nil))))), ?_⟩
  refine ⟨_, rfl, _, rfl, a, m, w', R, rfl, hta, tab, bd, hm, hw, hT, fun H1 p das ds t e1 hp hds dok st => ?_⟩
  exact ⟨a, p, das, m, w', R, ds, rfl, e1.tab hta, tab, hp, hds, dok, by omega, by omega, fun H2 q e2 h2 => k _ q _ t (e1.trans e2) h2 st⟩
end
end K94

set_option Elab.async false
set_option linter.all false
/-! M8: what rows in steps tell. -/
namespace K94
section
variable {m w t : Nat} {R S : List Row}
theorem StepsOf.get (h : StepsOf m w R S t) {i : Nat} (hi : i < t) : S.getD i [] ∈ S.take t := by
  have := h.tm
  have hl := h.tab.len
  have : (S.take t)[i]? = some (S.getD i []) := by
    rw [List.getElem?_take, if_pos hi]
    simp [show i < S.length by omega]
  exact List.mem_of_getElem? this
theorem StepsOf.form (h : StepsOf m w R S t) : Form w R (S.take t) := by
  refine ⟨h.ech, Same.trans ⟨fun r hr => Lat.row (List.mem_of_mem_take hr), fun r hr => ?_⟩ h.same⟩
  obtain ⟨i, hi, rfl⟩ := mem_getD h.tab hr
  by_cases q : i < t
  · exact Lat.row (h.get q)
  · exact Lat.zero.of_eq fun j => (h.nought i (by omega) j).symm
theorem StepsOf.len (h : StepsOf m w R S t) : (S.take t).length = t := by
  rw [List.length_take, h.tab.len]; have := h.tm; omega
theorem StepsOf.uniq {m' t' : Nat} {S' : List Row} (h : StepsOf m w R S t) (h' : StepsOf m' w R S' t') : t = t' := by
  have := (h.form.uniq h'.form).1
  rw [h.len, h'.len] at this; exact this
/-- a row's lead below its length -/
def hasL (r : Row) : Bool := decide (leadN r < r.length)
theorem StepsOf.hasL (h : StepsOf m w R S t) {i : Nat} (hi : i < m) : hasL (S.getD i []) = decide (i < t) := by
  have hw := getD_len h.tab hi
  unfold K94.hasL
  by_cases q : i < t
  · rw [decide_eq_true q, hw]
    exact decide_eq_true (h.ech.pos _ (h.get q)).1
  · rw [decide_eq_false q, hw]
    have : leadN (S.getD i []) = (S.getD i []).length := leadN_full fun j => h.nought i (by omega) j
    exact decide_eq_false (by omega)
theorem StepsOf.filter (h : StepsOf m w R S t) : (S.filter K94.hasL) = S.take t := by
  have e : ∀ n, n ≤ m → (S.take n).filter K94.hasL = S.take (min n t) := by
    intro n
    induction n with
    | zero => intro _; simp
    | succ n ih =>
      intro hn
      have hl := h.tab.len
      have g : S[n]? = some (S.getD n []) := by simp [show n < S.length by omega]
      rw [List.take_succ, g, List.filter_append, ih (by omega)]
      have q := h.hasL (i := n) (by omega)
      by_cases c : n < t
      · rw [decide_eq_true c] at q
        have : List.filter K94.hasL (some (S.getD n [])).toList = [S.getD n []] := by simp only [Option.toList_some, List.filter_cons, q, if_true, List.filter_nil]
        rw [this, Nat.min_eq_left (by omega), Nat.min_eq_left (by omega), List.take_succ, g]; rfl
      · rw [decide_eq_false c] at q
        have : List.filter K94.hasL (some (S.getD n [])).toList = [] := by simp only [Option.toList_some, List.filter_cons, q, List.filter_nil]; rfl
        rw [this, List.append_nil, Nat.min_eq_right (by omega), Nat.min_eq_right (by omega)]
  have := e m (Nat.le_refl _)
  rw [Nat.min_eq_right h.tm, ← h.tab.len, List.take_length] at this
  exact this
theorem StepsOf.rest (h : StepsOf m w R S t) {p : Row} (hp : p.length = w) : IsRest R (rf p) (rf (restF S p)) ∧ (restF S p).length = w := by
  have e : restF S p = restF (S.take t) p := by
    rw [restF_skip S p]
    have := h.filter
    unfold K94.hasL at this
    rw [this]
  rw [e]
  exact ⟨(restF_is (by rw [hp]; exact h.ech)).same h.form.same, by rw [restF_len fun f hf => by rw [h.ech.len f hf, hp]]; exact hp⟩
theorem pp_sum : ∀ {F : List Row}, (∀ f ∈ F, 0 < lv f ∧ lv f ≤ 2 ^ bc (leadN f)) → 0 < pp F ∧ pp F ≤ 2 ^ ((F.map leadN).map bc).sum
  | [], _ => by simp [pp]
  | f :: F, h => by
    have h1 := h f List.mem_cons_self
    have h2 := pp_sum fun g hg => h g (List.mem_cons_of_mem _ hg)
    rw [List.map_cons, List.map_cons, List.sum_cons, pp, Int.pow_add]
    generalize (2 : Int) ^ bc (leadN f) = a at h1 ⊢
    generalize (2 : Int) ^ ((F.map leadN).map bc).sum = b at h2 ⊢
    refine ⟨Int.mul_pos h1.1 h2.1, ?_⟩
    exact Int.mul_le_mul h1.2 h2.2 (by omega) (by omega)
theorem sublist_sum {l m : List Nat} (h : l.Sublist m) : l.sum ≤ m.sum := by
  induction h with
  | slnil => exact Nat.le_refl _
  | cons a _ ih => rw [List.sum_cons]; omega
  | cons_cons a _ ih => rw [List.sum_cons, List.sum_cons]; omega
theorem pp_bits {F : List Row} (hF : Ech w F) (hw : w ≤ 3) (h : ∀ f ∈ F, lv f ≤ 2 ^ bc (leadN f)) : 0 < pp F ∧ (pp F).natAbs < 2 ^ 1747 := by
  obtain ⟨h1, h2⟩ := pp_sum fun f hf => ⟨(hF.pos f hf).2, h f hf⟩
  have h3 : (F.map leadN).Sublist (List.range 3) := sorted_sublist hF.sorted List.pairwise_lt_range fun x hx => by
    obtain ⟨f, hf, rfl⟩ := List.mem_map.mp hx
    exact List.mem_range.mpr (by have := (hF.pos f hf).1; omega)
  have h4 := sublist_sum (h3.map bc)
  have h5 : ((List.range 3).map bc).sum = 1746 := by decide
  refine ⟨h1, ?_⟩
  rw [pow_cast] at h2
  have h6 : 2 ^ ((F.map leadN).map bc).sum < 2 ^ 1747 := Nat.pow_lt_pow_right (by decide) (by omega)
  generalize 2 ^ ((F.map leadN).map bc).sum = z at h2 h6
  generalize (2 : Nat) ^ 1747 = y at h6 ⊢
  omega
theorem lv_lt {f : Row} (hl : leadN f < w) (hw : w ≤ 3) (h0 : 0 < lv f) (h : lv f ≤ 2 ^ bc (leadN f)) : (lv f).natAbs < 2 ^ 1639 := by
  have hb : bc (leadN f) ≤ 1638 := by
    rcases (show leadN f = 0 ∨ leadN f = 1 ∨ leadN f = 2 by omega) with e | e | e <;> rw [e] <;> decide
  rw [pow_cast] at h
  have h6 : 2 ^ bc (leadN f) < 2 ^ 1639 := Nat.pow_lt_pow_right (by decide) (by omega)
  generalize 2 ^ bc (leadN f) = z at h h6
  generalize (2 : Nat) ^ 1639 = y at h6 ⊢
  omega
end
end K94

set_option Elab.async false
set_option linter.all false
set_option maxRecDepth 100000
set_option maxHeartbeats 4000000
namespace K94
open PySem PySem.Spec PyProof.Rows L2
section
variable {P : Program} {w : World} {K : PySem.W.Frag} {mg : Str → Option Value} {base : Heap} {T : TabL}
/-! ### the rest of a point by rows -/
structure RowsOk (w : Nat) (F : List Row) : Prop where
  len : ∀ f ∈ F, f.length = w
  lead : ∀ f ∈ F, leadN f < w → 0 < lv f ∧ lv f ≤ 2 ^ bc (leadN f)
  bd : ∀ f ∈ F, ∀ j, (rf f j).natAbs < 2 ^ 30000
theorem StepsOf.rowsOk {m w t : Nat} {R S : List Row} (h : StepsOf m w R S t) : RowsOk w S := by
  refine ⟨h.tab.wid, fun f hf hl => ?_, fun f hf j => ?_⟩
  · obtain ⟨i, hi, rfl⟩ := mem_getD h.tab hf
    by_cases q : i < t
    · exact ⟨(h.ech.pos _ (h.get q)).2, h.small _ (h.get q)⟩
    · have := leadN_full (r := S.getD i []) fun j => h.nought i (by omega) j
      rw [getD_len h.tab hi] at this; omega
  · obtain ⟨i, hi, rfl⟩ := mem_getD h.tab hf
    exact h.bd i j
theorem RowsOk.take {w : Nat} {F : List Row} (h : RowsOk w F) (n : Nat) : RowsOk w (F.take n) := ⟨fun f hf => h.len f (List.mem_of_mem_take hf), fun f hf => h.lead f (List.mem_of_mem_take hf), fun f hf => h.bd f (List.mem_of_mem_take hf)⟩
def cntN (p f : Row) : Int := if leadN f < f.length then (rf p (leadN f)).fdiv (lv f) else 0
theorem restStep_cnt {p f : Row} (h : p.length = f.length) : (List.range p.length).map (fun i => V.int (rf p i - cntN p f * rf f i)) = (restStep p f).map V.int := by
  unfold restStep cntN
  by_cases q : leadN f < f.length
  · rw [if_pos q, if_pos q, ← addk_range _ h]
    exact List.map_congr_left fun i _ => by congr 1; grind
  · rw [if_neg q, if_neg q]
    refine List.ext_getElem? fun i => ?_
    by_cases hi : i < p.length
    · rw [List.getElem?_map, List.getElem?_range hi, List.getElem?_map, rf_get hi]
      simp
    · rw [List.getElem?_eq_none (by simp; omega), List.getElem?_eq_none (by simp; omega)]
theorem cnt_bits {p f : Row} {A : Nat} (hp : ∀ j, (rf p j).natAbs < 2 ^ A) (hl : leadN f < f.length → 0 < lv f) : (cntN p f).natAbs ≤ 2 ^ A := by
  unfold cntN
  split
  · rename_i q
    have := hl q
    have h1 := quot_le (x := rf p (leadN f)) (p := lv f) (X := (rf p (leadN f)).natAbs) (by omega) (Nat.le_refl _)
    have h2 : (rf p (leadN f)).natAbs / (lv f).natAbs ≤ (rf p (leadN f)).natAbs := Nat.div_le_self _ _
    have h3 := hp (leadN f)
    omega
  · simp
theorem rest_bits {p f : Row} {A : Nat} (hpl : p.length = f.length) (hp : ∀ j, (rf p j).natAbs < 2 ^ A) (hl : leadN f < f.length → 0 < lv f) (hf : ∀ j, (rf f j).natAbs < 2 ^ 30000) : ∀ j, (rf (restStep p f) j).natAbs < 2 ^ (A + 30001) := fun j => by
  have h0 := hp j
  have e2 : (2 : Nat) ^ (A + 30001) = 2 ^ A * 2 ^ 30000 * 2 := by rw [Nat.pow_succ, Nat.pow_add]
  have h30 : 1 ≤ 2 ^ 30000 := Nat.pow_pos (by decide)
  rw [e2]
  have h4 : 2 ^ A * 1 ≤ 2 ^ A * 2 ^ 30000 := Nat.mul_le_mul_left _ h30
  unfold restStep
  split
  · rename_i q
    rw [rf_addk _ hpl]
    have hc := cnt_bits hp hl
    unfold cntN at hc
    rw [if_pos q] at hc
    have h1 : ((0 - (rf p (leadN f)).fdiv (lv f)) * rf f j).natAbs ≤ 2 ^ A * 2 ^ 30000 := by
      rw [Int.natAbs_mul]
      exact Nat.mul_le_mul (by omega) (Nat.le_of_lt (hf j))
    have h2 := Int.natAbs_add_le (rf p j) ((0 - (rf p (leadN f)).fdiv (lv f)) * rf f j)
    generalize 2 ^ A * 2 ^ 30000 = z at *
    omega
  · generalize 2 ^ A * 2 ^ 30000 = z at *
    omega
theorem restF_take {F : List Row} {p f : Row} {i : Nat} (h : F[i]? = some f) : restF (F.take (i + 1)) p = restStep (restF (F.take i) p) f := by
  unfold restF
  rw [List.take_succ, h, List.foldl_append]; rfl
def spTaken (T : TabL) (K : PySem.W.Frag) : Sp := fun vs H Q _ => ∃ (a b : Addr) (w A : Nat) (F : List Row) (p : Row), vs = [.ref a, .ref b] ∧ TabAt K H a w F ∧ RowsOk w F ∧ F.length ≤ 3 ∧ w ≤ 3 ∧ RowAt K H b p ∧ p.length = w ∧ (∀ j, (rf p j).natAbs < 2 ^ A) ∧ A ≤ 1000000 ∧
  ∀ H' q c1 c2, Ex T H H' → SqT K H' q [.ref c1, .ref c2] → RowAt K H' c1 (restF F p) → Q (.ref q) H'
theorem sc_taken : FnScope ["form", "point", "left", "often", "row", "lead", "count", "number", "one"] ["form", "point"] (defScope s_taken) := ⟨rfl, rfl, rfl, by decide +kernel, rfl, by decide +kernel, by decide +kernel⟩
theorem ok_taken (F : Def K mg "taken" s_taken) (B : Bi mg) (c_lead_in : C8.Cal P w K mg base 1 "lead_in" (spLeadO T K) []) : C8.Cal P w K mg base 2 "taken" (spTaken T K) [] := by
  refine F.cal sc_taken (fun vs H Q E h => ?_) (fun _ _ _ _ _ _ us hl => match us, hl with | [_, _], _ => rfl) (fun f cdv A outer s H vs Q E hr h => ?_)
  · obtain ⟨a, b, w', A', F, p, rfl, _⟩ := h
    rfl
  obtain ⟨a, b, w', A', F, p, rfl, ⟨c, hta, rs, hrs, hrows⟩, ok, hF, hw, hb, hpl, hpb, hA, k⟩ := h
  refine ⟨_,
  (pss_cons (ps_set (i := 2) sc_taken.nd rfl (by first | exact Or.inl rfl | exact Or.inr rfl) (pe_callTy (call_lstK K) (by rfl) B.list (by decide +kernel) (pa_cons (pv 1) pa_nil)))
  (pss_cons (ps_set (i := 3) sc_taken.nd rfl (by first | exact Or.inl rfl | exact Or.inr rfl) (pe_lst pa_nil))
  (pss_cons (ps_for PassesOwn.never rfl (pi_tK K rfl (pe_ix (ix_t K) (pv 0) pe_int (fun _ _ => rfl))) (pg_name (i := 4) sc_taken.nd rfl (by first | exact Or.inl rfl | exact Or.inr rfl))
    (pss_cons (ps_set (i := 5) sc_taken.nd rfl (by first | exact Or.inl rfl | exact Or.inr rfl) (C8.pe_c c_lead_in hr (by decide) rfl (pa_cons (pv 4) pa_nil)))
    (pss_cons (ps_set (i := 6) sc_taken.nd rfl (by first | exact Or.inl rfl | exact Or.inr rfl) (pe_ifExp (pt_cmpR op_isN (pv 5) pe_non (nomark _)) pe_int (pe_op op_fdivB (pe_ix (ix_lrow K) (pv 2) (pv 5) (fun _ _ => rfl)) (pe_ix (ix_row K) (pv 4) (pv 5) (fun _ _ => rfl)))))
    (pss_cons (ps_setLc (i := 2) (own := [("number", 7), ("one", 8)]) (by rfl) sc_taken.nd rfl rfl (sw_true rfl rfl rfl (by decide +kernel)) (pi_zmK K rfl (by rfl) B.zip (pa_cons (pv 2) (pa_cons (pv 4) pa_nil))) (blkOk_by (own := [("number", 7), ("one", 8)]) (N := ["form", "point", "left", "often", "row", "lead", "count", "number", "one"]) (sc := defScope s_taken) (by decide +kernel)) (fun _ _ _ _ _ => (pg_tK K rfl (n := 2) (pgs_cons (pg_name (i := 7) sc_taken.nd rfl (by first | exact Or.inl rfl | exact Or.inr rfl)) (pgs_cons (pg_name (i := 8) sc_taken.nd rfl (by first | exact Or.inl rfl | exact Or.inr rfl)) pgs_nil)))) (fun _ _ _ _ _ => pts_nil) (fun _ _ _ _ _ => (pe_op op_sub (pv 7) (pe_op op_mulB (pv 6) (pv 8)))))
    (pss_one (ps_expr (pe_bm PySem.F.plainAttrs_list PySem.F.slot_list_append PySem.F.type_list_append mt_append (pv 3) (pa_cons (pv 6) pa_nil))))))))
  (pss_one (ps_ret (pe_tup (pa_cons (pe_callTy (call_tupK K) (by rfl) B.tuple (by decide +kernel) (pa_cons (pv 2) pa_nil)) (pa_cons (pe_callTy (call_tupK K) (by rfl) B.tuple (by decide +kernel) (pa_cons (pv 3) pa_nil)) pa_nil)))))))), ?_⟩
  have lr : rs.length = F.length := hrows.length
  refine ⟨_, rfl, b, _, rfl, .inr hb, fun l0 hl0 => ?_⟩
  have e0 : Ex T H (upd H l0 (.lst (p.map V.int))) := .new hl0
  have h0 : upd H l0 (.lst (p.map V.int)) l0 = some (.lst (p.map V.int)) := upd_same
  refine ⟨Nat.zero_le _, fun D hD => ?_⟩
  have nlD : l0 ≠ D := ne_of_none h0 hD
  have fD : Fr0 H D := e0.fr0 hD
  have e1 : Ex T H (upd (upd H l0 (.lst (p.map V.int))) D (.lst [])) := e0.trans (.new hD)
  refine ⟨_, rfl, a, _, _, 1, _, rfl, rfl, e1.sqT hta, rfl, rfl, c, rfl, ⟨_, e1.sqT hrs⟩, ?_⟩
  refine for_it walk_tup (fun i σ H' => ∃ l oft u4 u5 u6 u7 u8, Ex T H H' ∧ H' l = some (.lst ((restF (F.take i) p).map V.int)) ∧ H' D = some (.lst oft) ∧ oft.length = i ∧ l ≠ D ∧ (restF (F.take i) p).length = w' ∧ (∀ j, (rf (restF (F.take i) p) j).natAbs < 2 ^ (A' + 30001 * i)) ∧
      σ = [some (.ref a), some (.ref b), some (.ref l), some (.ref D), u4, u5, u6, u7, u8])
    ⟨l0, [], _, _, _, _, _, e1, by rw [upd_ne nlD]; exact h0, upd_same, rfl, nlD, hpl, hpb, rfl⟩ (fun i σ H' _ ⟨l, oft, _, _, _, _, _, h, _⟩ => h.sqT hrs) ?_ ?_
  · rintro i x σ H2 H3 hi ⟨l, oft, u4, u5, u6, u7, u8, ex, hl, hDl, hoft, nl, hlen, hbits, rfl⟩ ⟨rfl, hx⟩
    obtain ⟨q, hq, rfl⟩ := ref_get hx
    obtain ⟨f, hf, hfa0⟩ := hrows.get hq
    have hfm := List.mem_of_getElem? hf
    have fl := ok.len f hfm
    have hi3 : i < F.length := (List.getElem?_eq_some_iff.mp hf).1
    have hpos : leadN f < f.length → 0 < lv f := fun z => (ok.lead f hfm (by omega)).1
    have hfa := ex.row hfa0
    refine ⟨_, rfl, q, f, rfl, hfa, by omega, fun H4 e4 => ?_⟩
    have ex4 := ex.trans e4
    have hl4 := e4.lst hl
    have hD4 := e4.lst hDl
    have hf4 := e4.row hfa
    have step : ∀ (Q : VK), Q (.int (cntN (restF (F.take i) p) f)) H4 → tIf (tTest (tOp (fun x y H Q => y = .non ∧ Q (.bl (decide (x = .non))) H) (tVar 5) (tC .non))) (tC (.int 0)) (tOp (rI DivOk fun i j => .int (i.fdiv j)) (tOp (rLRow K) (tVar 2) (tVar 5)) (tOp (rRow K) (tVar 4) (tVar 5)))
        [some (.ref a), some (.ref b), some (.ref l), some (.ref D), some (.ref q), some (leadV f), u6, u7, u8] H4 Q := fun Q hQ => by
      refine ⟨_, rfl, rfl, _, rfl, ?_⟩
      unfold cntN at hQ
      by_cases z : leadN f < f.length
      · rw [if_pos z] at hQ
        have hv : leadV f = .int (leadN f : Int) := by unfold leadV; rw [if_pos z]
        rw [hv]
        refine iteF ?_
        have hok := ok.lead f hfm (by omega)
        exact ⟨_, rfl, _, rfl, l, _, _, leadN f, rfl, rfl, .of hl4, rfl, by omega, _, rfl, _, rfl, q, f, _, leadN f, rfl, rfl, hf4, rfl, z, _, _, rfl, rfl, ⟨by show lv f ≠ 0; omega, by
          have h2 := lv_lt (w := w') (by omega) hw hok.1 hok.2
          exact pow_le h2 (by decide)⟩, hQ⟩
      · rw [if_neg z] at hQ
        have hv : leadV f = .non := by unfold leadV; rw [if_neg z]
        rw [hv]
        exact iteT hQ
    refine step _ ?_
    have hcb := cnt_bits hbits hpos
    have hlf : (restF (F.take i) p).length = f.length := by omega
    dsimp only [gName]
    refine seq_asg ⟨_, rfl, _, rfl, l, q, _, _, rfl, .of hl4, hf4, fun E' hE => ?_⟩
    refine lc_fn (T := T) (walk_zipM (by rw [List.length_map, List.length_map, hlf])) hE (by rw [List.length_map]; omega) (fun t => V.int (rf (restF (F.take i) p) t - cntN (restF (F.take i) p) f * rf f t)) (fun _ e => ⟨.of (e.lst hl4), e.row hf4⟩) ?_ gmono_two ?_
    · rintro t x H1 H5 ht e ⟨z, y1, y2, rfl, hz, rfl, g1, g2⟩ K1 hk
      obtain ⟨n1, hn1, rfl⟩ := map_get g1
      obtain ⟨n2, hn2, rfl⟩ := map_get g2
      refine pair_g (sqT_of upd_same) ⟨rfl, _, rfl, _, rfl, _, rfl, _, _, rfl, rfl, ?_, _, _, rfl, rfl, ?_⟩
      · rw [← rf_at hn2]
        exact mulOk_bits (a := A' + 30001 * i + 1) (Nat.lt_of_le_of_lt hcb (Nat.pow_lt_pow_right (by decide) (by omega))) (ok.bd f hfm t) (by omega)
      · rw [← rf_at hn1, ← rf_at hn2]
        exact hk _ (by rw [rf_at hn1, rf_at hn2]; exact .new hz)
    · intro H1 hE1 e
      have e3 : (List.range ((restF (F.take i) p).map V.int).length).map (fun t => V.int (rf (restF (F.take i) p) t - cntN (restF (F.take i) p) f * rf f t)) = (restStep (restF (F.take i) p) f).map V.int := by
        rw [List.length_map]; exact restStep_cnt hlf
      rw [e3] at hE1
      have hD1 := e.lst hD4
      have nE : E' ≠ D := (ne_of_none hD4 hE).symm
      refine ⟨_, rfl, .inl ⟨rfl, _, .inl (.inl hD1)⟩, _, rfl, D, _, _, rfl, rfl, hD1, szm (by omega), ?_⟩
      have ex1 := ex4.trans e
      refine ⟨E', oft ++ [.int (cntN (restF (F.take i) p) f)], _, _, _, _, _, ex1.mut0 fD hD1 (plain_lst _), ?_, upd_same, by rw [List.length_append, hoft]; rfl, nE, ?_, ?_, rfl⟩
      · rw [upd_ne nE, restF_take hf]; exact hE1
      · rw [restF_take hf, restStep_len hlf]; exact hlen
      · rw [restF_take hf]
        have := rest_bits hlf hbits hpos (ok.bd f hfm)
        rw [show A' + 30001 * (i + 1) = A' + 30001 * i + 30001 by omega]
        exact this
  · rintro σ H2 ⟨l, oft, u4, u5, u6, u7, u8, ex, hl, hDl, hoft, nl, hlen, hbits, rfl⟩
    rw [List.length_map, lr, List.take_length] at hl
    refine ⟨_, rfl, l, _, rfl, .inl ⟨.of hl, fun c1 hc1 => ⟨_, rfl, D, _, rfl, .inl ⟨.of ((Ex.new hc1).lst (T := T) hDl), fun c2 hc2 => ⟨by show 2 ≤ _; decide, fun q hq => ?_⟩⟩⟩⟩⟩
    refine k _ q c1 c2 (((ex.trans (.new hc1)).trans (.new hc2)).trans (.new hq)) (sqT_of upd_same) (Ex.row (T := T) (.new hq) (Ex.row (T := T) (.new hc2) (row_of upd_same)))
end
end K94

set_option Elab.async false
set_option linter.all false
set_option maxRecDepth 100000
set_option maxHeartbeats 4000000
namespace K94
open PySem PySem.Spec PyProof.Rows L2
section
variable {P : Program} {w : World} {K : PySem.W.Frag} {mg : Str → Option Value} {base : Heap} {T : TabL}
/-! ### leads, rank -/
theorem sc_lead_of : FnScope ["row", "column", "number"] ["row"] (defScope s_lead_of) := ⟨rfl, rfl, rfl, by decide +kernel, rfl, by decide +kernel, by decide +kernel⟩
theorem ok_lead_of (F : Def K mg "lead_of" s_lead_of) (B : Bi mg)  : C8.Cal P w K mg base 1 "lead_of" (spLeadO T K) [] := by
  refine F.cal sc_lead_of (fun vs H Q E h => ?_) (fun _ _ _ _ _ _ us hl => match us, hl with | [_], _ => rfl) (fun f cdv A outer s H vs Q E hr h => ?_)
  · obtain ⟨a, r, rfl, _⟩ := h
    rfl
  obtain ⟨a, r, rfl, hrow, hlen, k⟩ := h
  refine ⟨_,
  (pss_cons (ps_for PassesOwn.never rfl (pi_eK K rfl (by rfl) B.enumerate (pa_cons (pv 0) pa_nil)) (pg_tK K rfl (n := 2) (pgs_cons (pg_name (i := 1) sc_lead_of.nd rfl (by first | exact Or.inl rfl | exact Or.inr rfl)) (pgs_cons (pg_name (i := 2) sc_lead_of.nd rfl (by first | exact Or.inl rfl | exact Or.inr rfl)) pgs_nil)))
    (pss_one (ps_if (pt_cmpR op_ne (pv 2) pe_int (nomark _))
      (pss_one (ps_ret (pv 1)))
      pss_nil)))
  (pss_one (ps_ret pe_non))), ?_⟩
  have hle := leadN_le r
  refine ⟨_, rfl, a, _, rfl, hrow, for_it walk_enumT (fun i σ H' => Ex T H H' ∧ (∃ v u, σ = [some (.ref a), v, u]) ∧ i ≤ leadN r) ⟨.refl H, ⟨_, _, rfl⟩, Nat.zero_le _⟩ (fun i σ H' _ h => h.1.sqT hrow) ?_ ?_⟩
  · rintro i x σ H0 H' hi ⟨hx, ⟨v, u, rfl⟩, hl⟩ ⟨z, c, y, rfl, hz, rfl, h1, h2⟩
    cases h1
    obtain ⟨n, hn, rfl⟩ := map_get h2
    have hn' := rf_at hn
    have hi' : i < r.length := by simpa using hi
    refine pair_g (sqT_of upd_same) ?_
    refine ⟨_, rfl, rfl, _, rfl, ?_⟩
    rw [vne]
    refine ite2 (fun h => ⟨_, rfl, ?_⟩) fun h => ⟨hx.trans (.new hz), ⟨_, _, rfl⟩, ?_⟩
    · have hn : rf r i ≠ 0 := by rw [hn']; simpa using h
      have e : leadN r = i := by
        by_cases e : leadN r = i
        · exact e
        · exact absurd (leadN_before r i (by omega)) hn
      have := k _ (hx.trans (.new hz (o := .tup [.int (i : Nat), .int n])))
      unfold leadV at this
      rw [e, if_pos hi'] at this
      exact this
    · have hz : rf r i = 0 := by rw [hn']; simpa using h
      by_cases e : leadN r = i
      · exact absurd (by rw [e]; exact hz) (leadN_ne r (by omega))
      · omega
  · rintro σ H' ⟨hx, ⟨v, u, rfl⟩, hl⟩
    have e : leadN r = r.length := by
      have : (r.map V.int).length ≤ leadN r := hl
      rw [List.length_map] at this
      omega
    have := k _ hx
    unfold leadV at this
    rw [if_neg (by omega)] at this
    exact this
/-- the tables of the law: few rows, small numbers -/
structure Small (m w : Nat) (R : List Row) : Prop where
  tab : Tab m w R
  bd : Bd 50 R
  hm : m ≤ 3
  hw : w ≤ 3
def spLeadsOf (T : TabL) (K : PySem.W.Frag) : Sp := fun vs H Q _ => ∃ (a : Addr) (m w : Nat) (R : List Row), vs = [.ref a] ∧ TabAt K H a w R ∧ Small m w R ∧ LamX.Tabs T H ∧
  ∀ H' p xs S t, Ex T H H' → H' p = some (.lst xs) → StepsOf m w R S t → xs.length = t → Q (.ref p) H'
theorem leadV_non {r : Row} : (!decide (leadV r = V.non)) = hasL r := by
  unfold leadV hasL
  split
  · rename_i h; rw [decide_eq_true h]; rfl
  · rename_i h; rw [decide_eq_false h]; rfl
theorem sc_leads_of : FnScope ["table", "row"] ["table"] (defScope s_leads_of) := ⟨rfl, rfl, rfl, by decide +kernel, rfl, by decide +kernel, by decide +kernel⟩
theorem ok_leads_of (F : Def K mg "leads_of" s_leads_of) (B : Bi mg) (c_steps_of : C8.Cal P w K mg base 6 "steps_of" (spStepsOf T K) []) (c_lead_of : C8.Cal P w K mg base 1 "lead_of" (spLeadO T K) []) : C8.Cal P w K mg base 7 "leads_of" (spLeadsOf T K) [] := by
  refine F.cal sc_leads_of (fun vs H Q E h => ?_) (fun _ _ _ _ _ _ us hl => match us, hl with | [_], _ => rfl) (fun f cdv A outer s H vs Q E hr h => ?_)
  · obtain ⟨a, m, w', R, rfl, _⟩ := h
    rfl
  obtain ⟨a, m, w', R, rfl, hta, sm, hT, k⟩ := h
  refine ⟨_,
  (pss_one (ps_ret (pe_lc (own := [("row", 1)]) (by rfl) sc_leads_of.nd (pi_tK K rfl (pe_ix (ix_t K) (C8.pe_c c_steps_of hr (by decide) rfl (pa_cons (pv 0) pa_nil)) pe_int (fun _ _ => rfl))) (blkOk_by (own := [("row", 1)]) (N := ["table", "row"]) (sc := defScope s_leads_of) (by decide +kernel)) (fun _ _ _ _ _ => (pg_name (i := 1) sc_leads_of.nd rfl (by first | exact Or.inl rfl | exact Or.inr rfl))) (fun _ _ _ _ _ => (pts_one (pt_cmpR op_notN (C8.pe_c c_lead_of hr (by decide) rfl (pa_cons (pv 1) pa_nil)) pe_non (nomark _)))) (fun _ _ _ _ _ => (C8.pe_c c_lead_of hr (by decide) rfl (pa_cons (pv 1) pa_nil)))))), ?_⟩
  refine ⟨_, rfl, a, m, w', R, rfl, hta, sm.tab, sm.bd, sm.hm, sm.hw, hT, fun H1 p S t e1 ⟨b, hp, rs, hrs, hrows⟩ st => ?_⟩
  have lr : rs.length = S.length := hrows.length
  have lS : S.length = m := st.tab.len
  have hm3 := sm.hm
  have hw3 := sm.hw
  refine ⟨p, _, _, 1, _, rfl, rfl, hp, rfl, rfl, b, rfl, ⟨_, hrs⟩, fun D hD => ?_⟩
  refine lc_go (T := T) walk_tup hD (by rw [List.length_map]; omega) (fun i acc _ => acc.length = ((S.take i).filter hasL).length) rfl (fun _ e => e.sqT hrs) ?_ fun acc H2 hD2 e2 _ hacc => ?_
  · rintro i x acc H2 H3 hi hacc _ e hp' ⟨rfl, hx⟩ K1 K0 h1 h0
    obtain ⟨q, rfl, hq, hi'⟩ := rows_at (e.all hrows) hx
    have ql := getD_len st.tab (i := i) (by omega)
    have hS : S[i]? = some (S.getD i []) := by simp [hi']
    refine ⟨rfl, _, rfl, q, S.getD i [], rfl, hq, by omega, fun H4 e4 => ⟨rfl, _, rfl, ?_⟩⟩
    rw [leadV_non]
    refine ite2 (fun hh => ⟨_, rfl, q, S.getD i [], rfl, e4.row hq, by omega, fun H5 e5 => h1 _ _ (e4.trans e5) ?_⟩) fun hh => h0 _ e4 ?_
    · rw [List.take_succ, hS, List.filter_append, List.length_append, List.length_append, hp']
      have : List.filter hasL (some (S.getD i [])).toList = [S.getD i []] := by simp only [Option.toList_some, List.filter_cons, hh, if_true, List.filter_nil]
      rw [this]; rfl
    · rw [List.take_succ, hS, List.filter_append, List.length_append, hp']
      have : List.filter hasL (some (S.getD i [])).toList = [] := by simp only [Option.toList_some, List.filter_cons, hh, List.filter_nil]; rfl
      rw [this]; rfl
  · refine k H2 D acc S t (e1.trans e2) hD2 st ?_
    rw [List.length_map, lr, List.take_length, st.filter] at hacc
    rw [hacc, st.len]
def spRank (T : TabL) (K : PySem.W.Frag) : Sp := fun vs H Q _ => ∃ (a : Addr) (m w : Nat) (R : List Row), vs = [.ref a] ∧ TabAt K H a w R ∧ Small m w R ∧ LamX.Tabs T H ∧
  ∀ H' S t, Ex T H H' → StepsOf m w R S t → Q (.int (t : Int)) H'
theorem sc_rank_of : FnScope ["table"] ["table"] (defScope s_rank_of) := ⟨rfl, rfl, rfl, by decide +kernel, rfl, by decide +kernel, by decide +kernel⟩
theorem ok_rank_of (F : Def K mg "rank_of" s_rank_of) (B : Bi mg) (c_leads_of : C8.Cal P w K mg base 7 "leads_of" (spLeadsOf T K) []) : C8.Cal P w K mg base 8 "rank_of" (spRank T K) [] := by
  refine F.cal sc_rank_of (fun vs H Q E h => ?_) (fun _ _ _ _ _ _ us hl => match us, hl with | [_], _ => rfl) (fun f cdv A outer s H vs Q E hr h => ?_)
  · obtain ⟨a, m, w', R, rfl, _⟩ := h
    rfl
  obtain ⟨a, m, w', R, rfl, hta, sm, hT, k⟩ := h
  refine ⟨_,
  (pss_one (ps_ret (pe_callB (call_lenN K) (by rfl) B.len PySem.boot_len (pa_cons (C8.pe_c c_leads_of hr (by decide) rfl (pa_cons (pv 0) pa_nil)) pa_nil)))), ?_⟩
  exact ⟨_, rfl, a, m, w', R, rfl, hta, sm, hT, fun H1 p xs S t e1 h1 st hl => ⟨p, xs, t, rfl, .inl (.of h1), hl, k H1 S t e1 st⟩⟩
/-! ### rests, forms -/
def spRestOf (T : TabL) (K : PySem.W.Frag) : Sp := fun vs H Q _ => ∃ (a b : Addr) (m w A : Nat) (R : List Row) (p : Row), vs = [.ref a, .ref b] ∧ TabAt K H a w R ∧ Small m w R ∧ LamX.Tabs T H ∧ RowAt K H b p ∧ p.length = w ∧ (∀ j, (rf p j).natAbs < 2 ^ A) ∧ A ≤ 1000000 ∧
  ∀ H' q r, Ex T H H' → RowAt K H' q r → r.length = w → IsRest R (rf p) (rf r) → Q (.ref q) H'
theorem sc_rest_of : FnScope ["table", "point"] ["table", "point"] (defScope s_rest_of) := ⟨rfl, rfl, rfl, by decide +kernel, rfl, by decide +kernel, by decide +kernel⟩
theorem ok_rest_of (F : Def K mg "rest_of" s_rest_of) (B : Bi mg) (c_steps_of : C8.Cal P w K mg base 6 "steps_of" (spStepsOf T K) []) (c_taken : C8.Cal P w K mg base 2 "taken" (spTaken T K) []) : C8.Cal P w K mg base 7 "rest_of" (spRestOf T K) [] := by
  refine F.cal sc_rest_of (fun vs H Q E h => ?_) (fun _ _ _ _ _ _ us hl => match us, hl with | [_, _], _ => rfl) (fun f cdv A outer s H vs Q E hr h => ?_)
  · obtain ⟨a, b, m, w', A', R, p, rfl, _⟩ := h
    rfl
  obtain ⟨a, b, m, w', A', R, p, rfl, hta, sm, hT, hb, hpl, hpb, hA, k⟩ := h
  refine ⟨_,
  (pss_one (ps_ret (pe_ix (ix_t K) (C8.pe_c c_taken hr (by decide) rfl (pa_cons (C8.pe_c c_steps_of hr (by decide) rfl (pa_cons (pv 0) pa_nil)) (pa_cons (pv 1) pa_nil))) pe_int (fun _ _ => rfl)))), ?_⟩
  refine ⟨_, rfl, a, m, w', R, rfl, hta, sm.tab, sm.bd, sm.hm, sm.hw, hT, fun H1 q S t e1 h1 st => ⟨_, rfl, q, b, w', A', S, p, rfl, h1, st.rowsOk, by rw [st.tab.len]; exact sm.hm, sm.hw, e1.row hb, hpl, hpb, hA, fun H2 q2 c1 c2 e2 h2 h3 => ?_⟩⟩
  obtain ⟨r1, r2⟩ := st.rest hpl
  exact ⟨q2, _, _, 0, _, rfl, rfl, h2, rfl, rfl, k H2 c1 _ (e1.trans e2) h3 r2 r1⟩
/-- a form as it comes -/
structure FormOk (w : Nat) (R F : List Row) : Prop where
  form : Form w R F
  ok : RowsOk w F
  len : F.length ≤ 3
def spFormOf (T : TabL) (K : PySem.W.Frag) : Sp := fun vs H Q _ => ∃ (a : Addr) (m w : Nat) (R : List Row), vs = [.ref a] ∧ TabAt K H a w R ∧ Small m w R ∧ LamX.Tabs T H ∧
  ∀ H' q F, Ex T H H' → TabAt K H' q w F → FormOk w R F → Q (.ref q) H'
theorem StepsOf.formOk {m w t : Nat} {R S : List Row} (h : StepsOf m w R S t) (hm : m ≤ 3) : FormOk w R (S.take t) := ⟨h.form, h.rowsOk.take t, by rw [h.len]; have := h.tm; omega⟩
theorem sc_form_of : FnScope ["table"] ["table"] (defScope s_form_of) := ⟨rfl, rfl, rfl, by decide +kernel, rfl, by decide +kernel, by decide +kernel⟩
theorem ok_form_of (F : Def K mg "form_of" s_form_of) (B : Bi mg) (c_steps_of : C8.Cal P w K mg base 6 "steps_of" (spStepsOf T K) []) (c_rank_of : C8.Cal P w K mg base 8 "rank_of" (spRank T K) []) : C8.Cal P w K mg base 9 "form_of" (spFormOf T K) [] := by
  refine F.cal sc_form_of (fun vs H Q E h => ?_) (fun _ _ _ _ _ _ us hl => match us, hl with | [_], _ => rfl) (fun f cdv A outer s H vs Q E hr h => ?_)
  · obtain ⟨a, m, w', R, rfl, _⟩ := h
    rfl
  obtain ⟨a, m, w', R, rfl, hta, sm, hT, k⟩ := h
  obtain ⟨tb, htt, _⟩ := id hta
  refine ⟨_,
  (pss_one (ps_ret (pe_tup (pa_cons (pe_ix (ix_t K) (pv 0) pe_int (fun _ _ => rfl)) (pa_cons (pe_slice (sl_tK K) (pe_ix (ix_t K) (C8.pe_c c_steps_of hr (by decide) rfl (pa_cons (pv 0) pa_nil)) pe_int (fun _ _ => rfl)) po_none (po_some (C8.pe_c c_rank_of hr (by decide) rfl (pa_cons (pv 0) pa_nil)))) pa_nil))))), ?_⟩
  refine ⟨_, rfl, a, _, _, 0, _, rfl, rfl, htt, rfl, rfl, ?_⟩
  refine ⟨_, rfl, a, m, w', R, rfl, hta, sm.tab, sm.bd, sm.hm, sm.hw, hT, fun H1 q S t e1 ⟨b, h1, rs, hrs, hrows⟩ st => ⟨q, _, _, 1, _, rfl, rfl, h1, rfl, rfl, ?_⟩⟩
  refine ⟨_, rfl, a, m, w', R, rfl, e1.tab hta, sm, e1.tabs hT, fun H2 S' t' e2 st' => ⟨_, rfl, ?_⟩⟩
  have htt' : t' = t := st'.uniq st
  subst htt'
  have fo := st.formOk sm.hm
  have hrs2 := e2.sqT hrs
  have hrows2 := e2.all hrows
  have lr : rs.length = S.length := hrows.length
  have lS : S.length = m := st.tab.len
  have tm := st.tm
  refine ⟨b, _, rfl, hrs2, fun hz => ?_, fun hz p hp => ?_⟩
  · have z := hz.2
    rw [HT.sIx_nat, List.length_map] at z
    have ht : S.take t' = S := List.take_of_length_le (by omega)
    rw [ht] at fo
    refine ⟨by show 2 ≤ _; decide, fun p hp => k _ p S ((e1.trans e2).trans (.new hp)) ⟨b, sqT_of upd_same, rs, Ex.sqT (T := T) (.new hp) hrs2, Ex.all (T := T) (.new hp) hrows2⟩ fo⟩
  · rw [cut_take, ← List.map_take]
    refine ⟨by show 2 ≤ _; decide, fun u hu => k _ u _ (((e1.trans e2).trans (.new hp)).trans (.new hu)) ⟨p, sqT_of upd_same, rs.take t', Ex.sqT (T := T) (.new hu) (sqT_of upd_same), Ex.all (T := T) (.new hu) (Ex.all (T := T) (.new hp) (hrows2.take t'))⟩ fo⟩
end
end K94

set_option Elab.async false
set_option linter.all false
set_option maxRecDepth 100000
set_option maxHeartbeats 4000000
namespace K94
open PySem PySem.Spec PyProof.Rows L2
section
variable {P : Program} {w : World} {K : PySem.W.Frag} {mg : Str → Option Value} {base : Heap} {T : TabL}
/-! ### inside -/
theorem leadV_rest {R : List Row} {p r : Row} (h : IsRest R (rf p) (rf r)) : leadV r = V.non ↔ Lat R (rf p) := by
  rw [← h.nought]
  unfold leadV
  have := leadN_le r
  split
  · rename_i q
    exact ⟨V.noConfusion, fun z => absurd (leadN_full z) (by omega)⟩
  · rename_i q
    exact ⟨fun _ => leadN_all (by omega), fun _ => rfl⟩
theorem FormOk.rest {w : Nat} {R F : List Row} (h : FormOk w R F) {p : Row} (hp : p.length = w) : IsRest R (rf p) (rf (restF F p)) ∧ (restF F p).length = w :=
  ⟨(restF_is (by rw [hp]; exact h.form.ech)).same h.form.same, by rw [restF_len fun f hf => by rw [h.form.ech.len f hf, hp]]; exact hp⟩
theorem Small.row {m w : Nat} {R : List Row} (h : Small m w R) {i : Nat} (j : Nat) : (rf (R.getD i []) j).natAbs < 2 ^ 6 := by
  have := h.bd i j
  unfold ent at this
  omega
def spInside (T : TabL) (K : PySem.W.Frag) : Sp := fun vs H Q _ => ∃ (a b : Addr) (m1 m2 w : Nat) (R1 R2 : List Row), vs = [.ref a, .ref b] ∧ TabAt K H a w R1 ∧ TabAt K H b w R2 ∧ Small m1 w R1 ∧ Small m2 w R2 ∧ LamX.Tabs T H ∧
  ∀ H' c, Ex T H H' → (c = true ↔ Sub R1 R2) → Q (.bl c) H'
theorem sc_inside : FnScope ["one", "other", "form", "row"] ["one", "other"] (defScope s_inside) := ⟨rfl, rfl, rfl, by decide +kernel, rfl, by decide +kernel, by decide +kernel⟩
theorem ok_inside (F : Def K mg "inside" s_inside) (B : Bi mg) (c_form_of : C8.Cal P w K mg base 9 "form_of" (spFormOf T K) []) (c_taken : C8.Cal P w K mg base 2 "taken" (spTaken T K) []) (c_lead_in : C8.Cal P w K mg base 1 "lead_in" (spLeadO T K) []) : C8.Cal P w K mg base 10 "inside" (spInside T K) [] := by
  refine F.cal sc_inside (fun vs H Q E h => ?_) (fun _ _ _ _ _ _ us hl => match us, hl with | [_, _], _ => rfl) (fun f cdv A outer s H vs Q E hr h => ?_)
  · obtain ⟨a, b, m1, m2, w', R1, R2, rfl, _⟩ := h
    rfl
  obtain ⟨a, b, m1, m2, w', R1, R2, rfl, hta, htb, sm1, sm2, hT, k⟩ := h
  obtain ⟨ra, hta2, rs, hrs, hrows⟩ := id hta
  refine ⟨_,
  (pss_cons (ps_set (i := 2) sc_inside.nd rfl (by first | exact Or.inl rfl | exact Or.inr rfl) (C8.pe_c c_form_of hr (by decide) rfl (pa_cons (pv 1) pa_nil)))
  (pss_one (ps_ret (pe_callB (cr_all rfl) (by rfl) B.all (by decide +kernel) (pa_cons (pe_lc (own := [("row", 3)]) (by rfl) sc_inside.nd (pi_tK K rfl (pe_ix (ix_t K) (pv 0) pe_int (fun _ _ => rfl))) (blkOk_by (own := [("row", 3)]) (N := ["one", "other", "form", "row"]) (sc := defScope s_inside) (by decide +kernel)) (fun _ _ _ _ _ => (pg_name (i := 3) sc_inside.nd rfl (by first | exact Or.inl rfl | exact Or.inr rfl))) (fun _ _ _ _ _ => pts_nil) (fun _ _ _ _ _ => (pe_cmpR op_isN (C8.pe_c c_lead_in hr (by decide) rfl (pa_cons (pe_ix (ix_t K) (C8.pe_c c_taken hr (by decide) rfl (pa_cons (pv 2) (pa_cons (pv 3) pa_nil))) pe_int (fun _ _ => rfl)) pa_nil)) pe_non (nomark _)))) pa_nil))))), ?_⟩
  have hm1 := sm1.hm
  have hw1 := sm1.hw
  have lr : rs.length = R1.length := hrows.length
  have lR : R1.length = m1 := sm1.tab.len
  refine ⟨_, rfl, b, m2, w', R2, rfl, htb, sm2, hT, fun H1 q F e1 h1 fo => ?_⟩
  refine ⟨_, rfl, a, _, _, 1, _, rfl, rfl, e1.sqT hta2, rfl, rfl, ra, rfl, ⟨_, e1.sqT hrs⟩, fun D hD => ?_⟩
  refine lc_fn (T := T) walk_tup hD (by rw [List.length_map]; omega) (fun i => V.bl (decide (leadV (restF F (R1.getD i [])) = V.non))) (fun _ e => e.sqT (e1.sqT hrs)) ?_ gmono_name ?_
  · rintro i x H2 H3 hi e ⟨rfl, hx⟩ K1 hk
    obtain ⟨p, rfl, hp, hi'⟩ := rows_at (e.all (e1.all hrows)) hx
    have pl := getD_len sm1.tab (i := i) (by omega)
    refine ⟨rfl, _, rfl, _, rfl, q, p, w', 6, F, _, rfl, e.tab h1, fo.ok, fo.len, hw1, hp, pl, fun j => sm1.row j, by decide, fun H4 t c1 c2 e4 h4 h5 => ?_⟩
    refine ⟨t, _, _, 0, _, rfl, rfl, h4, rfl, rfl, c1, _, rfl, h5, by rw [(fo.rest pl).2]; omega, fun H5 e5 => ⟨rfl, hk _ (e4.trans e5)⟩⟩
  · intro H2 hD2 e2
    refine ⟨D, (List.range (rs.map V.ref).length).map fun i => decide (leadV (restF F (R1.getD i [])) = V.non), rfl, .of (by rw [List.map_map]; exact hD2), k _ _ (e1.trans e2) ?_⟩
    rw [List.all_eq_true]
    constructor
    · intro hall r hr
      obtain ⟨i, hi, rfl⟩ := mem_getD sm1.tab hr
      have := hall _ (List.mem_map.mpr ⟨i, List.mem_range.mpr (by rw [List.length_map]; omega), rfl⟩)
      exact (leadV_rest (fo.rest (getD_len sm1.tab hi)).1).mp (of_decide_eq_true this)
    · intro hs c hc
      obtain ⟨i, hi, rfl⟩ := List.mem_map.mp hc
      have hi : i < m1 := by
        have := List.mem_range.mp hi
        rw [List.length_map] at this; omega
      exact decide_eq_true ((leadV_rest (fo.rest (getD_len sm1.tab hi)).1).mpr (hs _ (getD_mem sm1.tab hi)))
/-! ### indexes -/
theorem FormOk.pos {w : Nat} {R F : List Row} (h : FormOk w R F) : ∀ f ∈ F, 0 < lv f ∧ lv f ≤ 2 ^ bc (leadN f) := fun f hf => h.ok.lead f hf (h.form.ech.pos f hf).1
theorem nat_bits {x : Int} {b : Nat} (h0 : 0 < x) (h : x < 2 ^ b) : x.natAbs < 2 ^ b := by
  have e : ((2 : Int) ^ b) = ((2 ^ b : Nat) : Int) := by norm_cast
  omega
theorem ech_take {w : Nat} {F : List Row} (h : Ech w F) (n : Nat) : Ech w (F.take n) := ⟨fun f hf => h.len f (List.mem_of_mem_take hf), fun f hf => h.pos f (List.mem_of_mem_take hf), h.rise.sublist (List.take_sublist n F)⟩
theorem FormOk.bits {w : Nat} {R F : List Row} (h : FormOk w R F) (hw : w ≤ 3) (n : Nat) : 0 < pp (F.take n) ∧ (pp (F.take n)).natAbs < 2 ^ 1747 := pp_bits (ech_take h.form.ech n) hw fun f hf => (h.pos f (List.mem_of_mem_take hf)).2
def spMult (T : TabL) (K : PySem.W.Frag) : Sp := fun vs H Q _ => ∃ (a : Addr) (w : Nat) (R F : List Row), vs = [.ref a] ∧ TabAt K H a w F ∧ FormOk w R F ∧ w ≤ 3 ∧ ∀ H', Ex T H H' → Q (.int (pp F)) H'
theorem sc_leads_multiplied : FnScope ["form", "found", "row"] ["form"] (defScope s_leads_multiplied) := ⟨rfl, rfl, rfl, by decide +kernel, rfl, by decide +kernel, by decide +kernel⟩
theorem ok_leads_multiplied (F : Def K mg "leads_multiplied" s_leads_multiplied) (B : Bi mg) (c_lead_in : C8.Cal P w K mg base 1 "lead_in" (spLeadO T K) []) : C8.Cal P w K mg base 2 "leads_multiplied" (spMult T K) [] := by
  refine F.cal sc_leads_multiplied (fun vs H Q E h => ?_) (fun _ _ _ _ _ _ us hl => match us, hl with | [_], _ => rfl) (fun f cdv A outer s H vs Q E hr h => ?_)
  · obtain ⟨a, w', R, F, rfl, _⟩ := h
    rfl
  obtain ⟨a, w', R, F, rfl, ⟨b, hta, rs, hrs, hrows⟩, fo, hw, k⟩ := h
  refine ⟨_,
  (pss_cons (ps_set (i := 1) sc_leads_multiplied.nd rfl (by first | exact Or.inl rfl | exact Or.inr rfl) pe_int)
  (pss_cons (ps_for PassesOwn.never rfl (pi_tK K rfl (pe_ix (ix_t K) (pv 0) pe_int (fun _ _ => rfl))) (pg_name (i := 2) sc_leads_multiplied.nd rfl (by first | exact Or.inl rfl | exact Or.inr rfl))
    (pss_one (ps_set (i := 1) sc_leads_multiplied.nd rfl (by first | exact Or.inl rfl | exact Or.inr rfl) (pe_op op_mulB (pv 1) (pe_ix (ix_row K) (pv 2) (C8.pe_c c_lead_in hr (by decide) rfl (pa_cons (pv 2) pa_nil)) (fun _ _ => rfl))))))
  (pss_one (ps_ret (pv 1))))), ?_⟩
  have lr : rs.length = F.length := hrows.length
  refine ⟨_, rfl, a, _, _, 1, _, rfl, rfl, hta, rfl, rfl, b, rfl, ⟨_, hrs⟩, for_it walk_tup (fun i σ H' => Ex T H H' ∧ ∃ u, σ = [some (.ref a), some (.int (pp (F.take i))), u]) ⟨.refl H, _, rfl⟩ (fun i σ H' _ h => h.1.sqT hrs) ?_ ?_⟩
  · rintro i x σ H2 H3 hi ⟨ex, u, rfl⟩ ⟨rfl, hx⟩
    obtain ⟨q, hq, rfl⟩ := ref_get hx
    obtain ⟨f, hf, hfa0⟩ := hrows.get hq
    have hfm := List.mem_of_getElem? hf
    have fl := fo.ok.len f hfm
    have hl := (fo.form.ech.pos f hfm).1
    have hp := fo.pos f hfm
    have hv : leadV f = .int (leadN f : Int) := by unfold leadV; rw [if_pos (by omega)]
    refine ⟨_, rfl, _, rfl, _, rfl, q, f, rfl, ex.row hfa0, by omega, fun H4 e4 => ?_⟩
    rw [hv]
    have mb : IntMulOk (pp (F.take i)) (rf f (leadN f)) := mulOk_bits (a := 1747) (b := 1639) (fo.bits hw i).2 (lv_lt hl hw hp.1 hp.2) (by decide)
    refine ⟨q, f, _, leadN f, rfl, rfl, e4.row (ex.row hfa0), rfl, by omega, _, _, rfl, rfl, mb, ex.trans e4, some (.ref q), ?_⟩
    have e : pp (F.take (i + 1)) = pp (F.take i) * lv f := by
      have h1 := pp_foldl (F.take (i + 1)) 1
      have h2 := pp_foldl (F.take i) 1
      rw [Int.one_mul] at h1 h2
      rw [← h1, ← h2, List.take_succ, hf, List.foldl_append]; rfl
    rw [e]; rfl
  · rintro σ H2 ⟨ex, u, rfl⟩
    rw [List.length_map, lr, List.take_length]
    exact ⟨_, rfl, k _ ex⟩
def spIndex (T : TabL) (K : PySem.W.Frag) : Sp := fun vs H Q _ => ∃ (a b : Addr) (m1 m2 w : Nat) (R1 R2 : List Row), vs = [.ref a, .ref b] ∧ TabAt K H a w R1 ∧ TabAt K H b w R2 ∧ Small m1 w R1 ∧ Small m2 w R2 ∧ LamX.Tabs T H ∧
  ∀ H' v, Ex T H H' → (¬ Sub R1 R2 → v = .non) → (Sub R1 R2 → ∃ F G, FormOk w R1 F ∧ FormOk w R2 G ∧ v = .int (ixF F G)) → Q v H'
theorem sc_index_of : FnScope ["one", "other", "below", "above"] ["one", "other"] (defScope s_index_of) := ⟨rfl, rfl, rfl, by decide +kernel, rfl, by decide +kernel, by decide +kernel⟩
theorem ok_index_of (F : Def K mg "index_of" s_index_of) (B : Bi mg) (c_inside : C8.Cal P w K mg base 10 "inside" (spInside T K) []) (c_form_of : C8.Cal P w K mg base 9 "form_of" (spFormOf T K) []) (c_leads_multiplied : C8.Cal P w K mg base 2 "leads_multiplied" (spMult T K) []) : C8.Cal P w K mg base 11 "index_of" (spIndex T K) [] := by
  refine F.cal sc_index_of (fun vs H Q E h => ?_) (fun _ _ _ _ _ _ us hl => match us, hl with | [_, _], _ => rfl) (fun f cdv A outer s H vs Q E hr h => ?_)
  · obtain ⟨a, b, m1, m2, w', R1, R2, rfl, _⟩ := h
    rfl
  obtain ⟨a, b, m1, m2, w', R1, R2, rfl, hta, htb, sm1, sm2, hT, k⟩ := h
  refine ⟨_,
  (pss_cons (ps_if (pt_not (pt_val (C8.pe_c c_inside hr (by decide) rfl (pa_cons (pv 0) (pa_cons (pv 1) pa_nil)))))
    (pss_one (ps_ret pe_non))
    pss_nil)
  (pss_cons (ps_set (i := 2) sc_index_of.nd rfl (by first | exact Or.inl rfl | exact Or.inr rfl) (C8.pe_c c_form_of hr (by decide) rfl (pa_cons (pv 0) pa_nil)))
  (pss_cons (ps_set (i := 3) sc_index_of.nd rfl (by first | exact Or.inl rfl | exact Or.inr rfl) (C8.pe_c c_form_of hr (by decide) rfl (pa_cons (pv 1) pa_nil)))
  (pss_cons (ps_if (pt_cmpR op_ne (pe_callB (call_lenN K) (by rfl) B.len PySem.boot_len (pa_cons (pe_ix (ix_t K) (pv 2) pe_int (fun _ _ => rfl)) pa_nil)) (pe_callB (call_lenN K) (by rfl) B.len PySem.boot_len (pa_cons (pe_ix (ix_t K) (pv 3) pe_int (fun _ _ => rfl)) pa_nil)) (nomark _))
    (pss_one (ps_ret pe_int))
    pss_nil)
  (pss_one (ps_ret (pe_op op_fdivB (C8.pe_c c_leads_multiplied hr (by decide) rfl (pa_cons (pv 2) pa_nil)) (C8.pe_c c_leads_multiplied hr (by decide) rfl (pa_cons (pv 3) pa_nil))))))))), ?_⟩
  refine ⟨_, rfl, _, rfl, a, b, m1, m2, w', R1, R2, rfl, hta, htb, sm1, sm2, hT, fun H1 c e1 hc => ⟨c, rfl, ?_⟩⟩
  cases c with
  | false =>
    refine iteT (k H1 .non e1 (fun _ => rfl) fun hs => absurd (hc.mpr hs) (by decide))
  | true =>
    have hs := hc.mp rfl
    refine iteF ?_
    refine ⟨_, rfl, a, m1, w', R1, rfl, e1.tab hta, sm1, e1.tabs hT, fun H2 p F e2 h2 fo => ?_⟩
    refine ⟨_, rfl, b, m2, w', R2, rfl, (e1.trans e2).tab htb, sm2, e2.tabs (e1.tabs hT), fun H3 q G e3 h3 go => ?_⟩
    obtain ⟨fb, ft, frs, hfrs, hfrows⟩ := id (e3.tab h2)
    obtain ⟨gb, gt, grs, hgrs, hgrows⟩ := id h3
    have e123 := (e1.trans e2).trans e3
    refine ⟨_, rfl, p, _, _, 1, _, rfl, rfl, ft, rfl, rfl, fb, _, F.length, rfl, .inr hfrs, by rw [List.length_map, hfrows.length], _, rfl, q, _, _, 1, _, rfl, rfl, gt, rfl, rfl, gb, _, G.length, rfl, .inr hgrs, by rw [List.length_map, hgrows.length], rfl, _, rfl, ?_⟩
    rw [vne]
    refine ite2 (fun hne => ?_) fun heq => ?_
    · have hne : F.length ≠ G.length := by
        have : ((F.length : Int) ≠ (G.length : Int)) := by simpa using hne
        omega
      refine k _ _ e123 (fun h => absurd hs h) fun _ => ⟨F, G, fo, go, ?_⟩
      unfold ixF; rw [if_pos hne]
    · have heq : F.length = G.length := by
        have : ((F.length : Int) = (G.length : Int)) := by simpa using heq
        omega
      refine ⟨_, rfl, p, w', R1, F, rfl, e3.tab h2, fo, sm1.hw, fun H4 e4 => ⟨_, rfl, q, w', R2, G, rfl, e4.tab h3, go, sm2.hw, fun H5 e5 => ?_⟩⟩
      have gb2 := go.bits sm2.hw G.length
      rw [List.take_length] at gb2
      refine ⟨_, _, rfl, rfl, ⟨by omega, pow_le gb2.2 (by decide)⟩, k _ _ ((e123.trans e4).trans e5) (fun h => absurd hs h) fun _ => ⟨F, G, fo, go, ?_⟩⟩
      unfold ixF; rw [if_neg (by simpa using heq)]
end
end K94

set_option Elab.async false
set_option linter.all false
/-! M9: the law's own steps. -/
namespace K94
/-! ### a list's measure -/
open Classical in
noncomputable def muL (l : List Int) : Nat := (l.map fun x => bt x.natAbs).sum + (if (∀ x ∈ l, 0 ≤ x) ∨ (∀ x ∈ l, x ≤ 0) then 0 else 1)
theorem muL_perm {l m : List Int} (h : l.Perm m) : muL l = muL m := by
  unfold muL
  rw [(h.map _).sum_nat]
  have : ((∀ x ∈ l, 0 ≤ x) ∨ (∀ x ∈ l, x ≤ 0)) ↔ ((∀ x ∈ m, 0 ≤ x) ∨ (∀ x ∈ m, x ≤ 0)) := by simp only [h.mem_iff]
  simp only [this]
theorem sum_le {l : List Int} {b : Nat} (h : ∀ x ∈ l, x.natAbs < 2 ^ b) : (l.map fun x => bt x.natAbs).sum ≤ l.length * b := by
  induction l with
  | nil => simp
  | cons x l ih =>
    have h1 := bt_le (h x List.mem_cons_self)
    have h2 := ih fun y hy => h y (List.mem_cons_of_mem _ hy)
    rw [List.map_cons, List.sum_cons, List.length_cons, Nat.succ_mul]
    omega
theorem muL_le {l : List Int} {b : Nat} (h : ∀ x ∈ l, x.natAbs < 2 ^ b) : muL l ≤ l.length * b + 1 := by
  have := sum_le h
  unfold muL
  split <;> omega
theorem sum_turn {p : Int} (hp : p ≠ 0) : ∀ {xs : List Int}, (∀ x ∈ xs, x ≠ 0 ∧ p.natAbs ≤ x.natAbs) → (((xs.map fun x => x.fmod p).filter fun x => decide (x ≠ 0)).map fun x => bt x.natAbs).sum ≤ (xs.map fun x => bt x.natAbs).sum
  | [], _ => by simp
  | x :: xs, h => by
    have ih := sum_turn hp fun y hy => h y (List.mem_cons_of_mem _ hy)
    have hx := h x List.mem_cons_self
    have h1 : bt (x.fmod p).natAbs ≤ bt x.natAbs := bt_mono (by have := fmod_abs (x := x) hp; omega)
    rw [List.map_cons, List.filter_cons]
    split
    · rw [List.map_cons, List.sum_cons, List.map_cons, List.sum_cons]; omega
    · rw [List.map_cons, List.sum_cons]; omega
theorem sum_turn_lt {p : Int} (hp : p ≠ 0) {xs : List Int} (h : ∀ x ∈ xs, x ≠ 0 ∧ p.natAbs ≤ x.natAbs) (hs : ∀ x ∈ xs, (0 ≤ x ∧ 0 < p) ∨ (x ≤ 0 ∧ p < 0)) (hne : xs ≠ []) :
    (((xs.map fun x => x.fmod p).filter fun x => decide (x ≠ 0)).map fun x => bt x.natAbs).sum < (xs.map fun x => bt x.natAbs).sum := by
  cases xs with
  | nil => exact absurd rfl hne
  | cons x xs =>
    have ih := sum_turn hp fun y hy => h y (List.mem_cons_of_mem _ hy)
    have hx := h x List.mem_cons_self
    have h2 := fmod_half hp (hs x List.mem_cons_self) hx.2
    have h1 : bt (x.fmod p).natAbs + 1 ≤ bt x.natAbs := bt_half (by omega) h2
    rw [List.map_cons, List.filter_cons]
    split
    · rw [List.map_cons, List.sum_cons, List.map_cons, List.sum_cons]; omega
    · rw [List.map_cons, List.sum_cons]; omega
theorem muL_turn {p : Int} (hp : p ≠ 0) {xs : List Int} (h : ∀ x ∈ xs, x ≠ 0 ∧ p.natAbs ≤ x.natAbs) (hne : xs ≠ []) : muL (p :: (xs.map fun x => x.fmod p).filter fun x => decide (x ≠ 0)) + 1 ≤ muL (p :: xs) := by
  have s2 : (∀ x ∈ p :: (xs.map fun x => x.fmod p).filter fun x => decide (x ≠ 0), 0 ≤ x) ∨ (∀ x ∈ p :: (xs.map fun x => x.fmod p).filter fun x => decide (x ≠ 0), x ≤ 0) := by
    rcases Int.lt_or_lt_of_ne hp with q | q
    · refine .inr fun x hx => ?_
      rcases List.mem_cons.mp hx with rfl | hx
      · omega
      · obtain ⟨y, _, rfl⟩ := List.mem_map.mp (List.mem_filter.mp hx).1
        exact (fmod_neg q).1
    · refine .inl fun x hx => ?_
      rcases List.mem_cons.mp hx with rfl | hx
      · omega
      · obtain ⟨y, _, rfl⟩ := List.mem_map.mp (List.mem_filter.mp hx).1
        exact (fmod_pos q).1
  unfold muL
  rw [if_pos s2, List.map_cons, List.sum_cons, List.map_cons, List.sum_cons]
  by_cases s1 : (∀ x ∈ p :: xs, 0 ≤ x) ∨ (∀ x ∈ p :: xs, x ≤ 0)
  · rw [if_pos s1]
    have := sum_turn_lt hp h (fun x hx => by
      rcases s1 with s1 | s1
      · have a := s1 x (List.mem_cons_of_mem _ hx); have b := s1 p List.mem_cons_self; exact .inl ⟨a, by omega⟩
      · have a := s1 x (List.mem_cons_of_mem _ hx); have b := s1 p List.mem_cons_self; exact .inr ⟨a, by omega⟩) hne
    omega
  · rw [if_neg s1]
    have := sum_turn hp h
    omega
/-! ### lattices of shifted rows -/
theorem sub_of {A B : List Row} (h : ∀ r ∈ A, Lat B (rf r)) : Sub A B := h
theorem same_shift {w : Nat} {h : Row} {xs C : List Row} (hh : h.length = w) (hx : ∀ r ∈ xs, r.length = w) (k : Row → Int) : Same (h :: xs.map (fun r => addk r h (k r)) ++ C) (h :: xs ++ C) := by
  have lh : Lat (h :: xs ++ C) (rf h) := Lat.row (by simp)
  have lh' : Lat (h :: xs.map (fun r => addk r h (k r)) ++ C) (rf h) := Lat.row (by simp)
  constructor
  · intro r hr
    rcases List.mem_append.mp hr with hr | hr
    · rcases List.mem_cons.mp hr with rfl | hr
      · exact lh
      · obtain ⟨x, hxm, rfl⟩ := List.mem_map.mp hr
        have lx : Lat (h :: xs ++ C) (rf x) := Lat.row (by simp [hxm])
        exact (lx.plusk lh (k x)).of_eq fun j => (rf_addk (k x) (by rw [hx x hxm, hh]) j).symm
    · exact Lat.row (List.mem_append_right _ hr)
  · intro r hr
    rcases List.mem_append.mp hr with hr | hr
    · rcases List.mem_cons.mp hr with rfl | hr
      · exact lh'
      · have lx : Lat (h :: xs.map (fun r => addk r h (k r)) ++ C) (rf (addk r h (k r))) := Lat.row (List.mem_append_left _ (List.mem_cons_of_mem _ (List.mem_map.mpr ⟨r, hr, rfl⟩)))
        exact (lx.plusk lh' (- k r)).of_eq fun j => by rw [rf_addk (k r) (by rw [hx r hr, hh]) j]; grind
    · exact Lat.row (List.mem_append_right _ hr)
/-! ### the state of a column -/
structure LS (w j : Nat) (R left found : List Row) : Prop where
  len : ∀ r ∈ left ++ found, r.length = w
  same : Same (left ++ found) R
  zero : ∀ r ∈ left, ∀ i, i < j → rf r i = 0
  ech : Ech w found
  lead : ∀ f ∈ found, leadN f < j
  small : ∀ f ∈ found, lv f ≤ 2 ^ bc (leadN f)
  bd : ∀ r ∈ left ++ found, ∀ i, (rf r i).natAbs < 2 ^ bc j
  cnt : left.length + found.length ≤ 3
structure LH (w j : Nat) (R left here found : List Row) (M X Ps : Nat) : Prop where
  len : ∀ r ∈ left ++ here ++ found, r.length = w
  same : Same (left ++ here ++ found) R
  zero : ∀ r ∈ left, ∀ i, i ≤ j → rf r i = 0
  hzero : ∀ r ∈ here, ∀ i, i < j → rf r i = 0
  hne : ∀ r ∈ here, rf r j ≠ 0
  ech : Ech w found
  lead : ∀ f ∈ found, leadN f < j
  small : ∀ f ∈ found, lv f ≤ 2 ^ bc (leadN f)
  bd : ∀ r ∈ left ++ here ++ found, ∀ i, (rf r i).natAbs ≤ M
  x : ∀ r ∈ here, (rf r j).natAbs ≤ X
  one : 1 ≤ X
  mone : 1 ≤ M
  pot : M * X * 4 ^ muL (here.map fun r => rf r j) ≤ Ps
  cnt : left.length + here.length + found.length ≤ 3
section
variable {w j : Nat} {R left here found : List Row} {M X Ps : Nat}
theorem filter_perm {α : Type} (p : α → Bool) : ∀ l : List α, (l.filter p ++ l.filter fun x => !p x).Perm l
  | [] => .refl _
  | a :: l => by
    rw [List.filter_cons, List.filter_cons]
    cases h : p a with
    | true => simpa using (filter_perm p l).cons a
    | false =>
      simp only [Bool.false_eq_true, if_false, Bool.not_false, if_true]
      exact List.perm_middle.trans ((filter_perm p l).cons a)
theorem LS.start {m : Nat} (t : Tab m w R) (hm : m ≤ 3) (bd : ∀ r ∈ R, ∀ i, (rf r i).natAbs ≤ 50) : LS w 0 R (R.filter fun r => decide (leadN r < w)) [] := by
  refine ⟨fun r hr => ?_, ⟨fun r hr => ?_, fun r hr => ?_⟩, fun _ _ _ h => absurd h (Nat.not_lt_zero _), .nil w, fun _ h => (by cases h), fun _ h => (by cases h), fun r hr i => ?_, ?_⟩
  · rw [List.append_nil] at hr; exact t.wid r (List.mem_filter.mp hr).1
  · rw [List.append_nil] at hr; exact Lat.row (List.mem_filter.mp hr).1
  · by_cases q : leadN r < w
    · exact Lat.row (by rw [List.append_nil]; exact List.mem_filter.mpr ⟨hr, decide_eq_true q⟩)
    · have : leadN r = r.length := by have := leadN_le r; have := t.wid r hr; omega
      exact Lat.zero.of_eq fun j => (leadN_all this j).symm
  · rw [List.append_nil] at hr
    have := bd r (List.mem_filter.mp hr).1 i
    show _ < 2 ^ 6
    omega
  · have := List.length_filter_le (fun r => decide (leadN r < w)) R
    have := t.len
    simp; omega
theorem LS.open_ (h : LS w j R left found) : LH w j R (left.filter fun r => decide (rf r j = 0)) (left.filter fun r => decide (rf r j ≠ 0)) found (2 ^ bc j) (2 ^ bc j) (2 ^ (8 * bc j + 2)) ∧ muL ((left.filter fun r => decide (rf r j ≠ 0)).map fun r => rf r j) ≤ 3 * bc j + 1 := by
  have hp : ((left.filter fun r => decide (rf r j = 0)) ++ (left.filter fun r => decide (rf r j ≠ 0))).Perm left := by
    have := filter_perm (fun r : Row => decide (rf r j = 0)) left
    have e : (fun r : Row => !decide (rf r j = 0)) = fun r => decide (rf r j ≠ 0) := by funext r; simp
    rw [e] at this; exact this
  have hp2 := hp.append_right found
  have hlen := hp.length_eq
  rw [List.length_append] at hlen
  have hcnt := h.cnt
  have hmu : muL ((left.filter fun r => decide (rf r j ≠ 0)).map fun r => rf r j) ≤ 3 * bc j + 1 := by
    have h1 := muL_le (l := (left.filter fun r => decide (rf r j ≠ 0)).map fun r => rf r j) (b := bc j) fun x hx => by
      obtain ⟨r, hr, rfl⟩ := List.mem_map.mp hx
      exact h.bd r (List.mem_append_left _ (List.mem_filter.mp hr).1) j
    rw [List.length_map] at h1
    have h2 : (left.filter fun r => decide (rf r j ≠ 0)).length * bc j ≤ 3 * bc j := Nat.mul_le_mul_right _ (by omega)
    omega
  refine ⟨⟨fun r hr => h.len r (hp2.mem_iff.mp hr), (Same.of_perm hp2).trans h.same, fun r hr i hi => ?_, fun r hr i hi => h.zero r (List.mem_filter.mp hr).1 i hi, fun r hr => of_decide_eq_true (List.mem_filter.mp hr).2, h.ech, h.lead, h.small, fun r hr i => Nat.le_of_lt (h.bd r (hp2.mem_iff.mp hr) i), fun r hr => Nat.le_of_lt (h.bd r (List.mem_append_left _ (List.mem_filter.mp hr).1) j), Nat.pow_pos (by decide), Nat.pow_pos (by decide), ?_, by omega⟩, hmu⟩
  · have := List.mem_filter.mp hr
    by_cases e : i = j
    · subst e; exact of_decide_eq_true this.2
    · exact h.zero r this.1 i (by omega)
  · have e4 : ∀ n, (4 : Nat) ^ n = 2 ^ (2 * n) := fun n => by rw [Nat.pow_mul]
    rw [e4, ← Nat.pow_add, ← Nat.pow_add]
    exact Nat.pow_le_pow_right (by decide) (by omega)
theorem LH.le (h : LH w j R left here found M X Ps) : M ≤ Ps ∧ X ≤ Ps := by
  have h1 := h.pot
  have h2 : 1 ≤ 4 ^ muL (here.map fun r => rf r j) := Nat.pow_pos (by decide)
  have h3 : M * X * 1 ≤ M * X * 4 ^ muL (here.map fun r => rf r j) := Nat.mul_le_mul_left _ h2
  have h4 : M * 1 ≤ M * X := Nat.mul_le_mul_left _ h.one
  have h5 : 1 * X ≤ M * X := Nat.mul_le_mul_right _ h.mone
  constructor <;> omega
theorem LH.perm {here' : List Row} (h : LH w j R left here found M X Ps) (p : here'.Perm here) : LH w j R left here' found M X Ps := by
  have q : (left ++ here' ++ found).Perm (left ++ here ++ found) := (p.append_left left).append_right found
  exact ⟨fun r hr => h.len r (q.mem_iff.mp hr), (Same.of_perm q).trans h.same, h.zero, fun r hr => h.hzero r (p.mem_iff.mp hr), fun r hr => h.hne r (p.mem_iff.mp hr), h.ech, h.lead, h.small, fun r hr => h.bd r (q.mem_iff.mp hr), fun r hr => h.x r (p.mem_iff.mp hr), h.one, h.mone, by rw [muL_perm (p.map _)]; exact h.pot, by rw [p.length_eq]; exact h.cnt⟩
/-- the rows less a multiple of the first -/
def lessL (j : Nat) (h0 : Row) (xs : List Row) : List Row := xs.map fun r => addk r h0 (0 - (rf r j).fdiv (rf h0 j))
theorem rf_less {h0 r : Row} (hl : r.length = h0.length) (i : Nat) : rf (addk r h0 (0 - (rf r j).fdiv (rf h0 j))) i = rf r i - (rf r j).fdiv (rf h0 j) * rf h0 i := by
  rw [rf_addk _ hl]; grind
theorem LH.turn {h0 : Row} {xs : List Row} (h : LH w j R left (h0 :: xs) found M X Ps) (hmin : ∀ r ∈ xs, (rf h0 j).natAbs ≤ (rf r j).natAbs) (hne : xs ≠ []) :
    ∃ M' X', X' ≤ X ∧ LH w j R (left ++ (lessL j h0 xs).filter fun r => decide (rf r j = 0)) (h0 :: (lessL j h0 xs).filter fun r => decide (rf r j ≠ 0)) found M' X' Ps ∧
      muL ((h0 :: (lessL j h0 xs).filter fun r => decide (rf r j ≠ 0)).map fun r => rf r j) + 1 ≤ muL ((h0 :: xs).map fun r => rf r j) := by
  have hp : rf h0 j ≠ 0 := h.hne h0 List.mem_cons_self
  have mem0 : h0 ∈ left ++ (h0 :: xs) ++ found := by simp
  have memx : ∀ r ∈ xs, r ∈ left ++ (h0 :: xs) ++ found := fun r hr => by simp [hr]
  have l0 := h.len h0 mem0
  have lx : ∀ r ∈ xs, r.length = h0.length := fun r hr => by rw [h.len r (memx r hr), l0]
  have col : (lessL j h0 xs).map (fun r => rf r j) = (xs.map fun r => rf r j).map fun x => x.fmod (rf h0 j) := by
    unfold lessL
    rw [List.map_map, List.map_map]
    refine List.map_congr_left fun r hr => ?_
    show rf (addk r h0 _) j = _
    rw [rf_less (lx r hr)]
    show _ = (rf r j).fmod (rf h0 j)
    rw [Int.fmod_def, Int.mul_comm]
  have colf : ((lessL j h0 xs).filter fun r => decide (rf r j ≠ 0)).map (fun r => rf r j) = ((xs.map fun r => rf r j).map fun x => x.fmod (rf h0 j)).filter fun x => decide (x ≠ 0) := by
    rw [← col, List.filter_map]; rfl
  have fall : muL ((h0 :: (lessL j h0 xs).filter fun r => decide (rf r j ≠ 0)).map fun r => rf r j) + 1 ≤ muL ((h0 :: xs).map fun r => rf r j) := by
    rw [List.map_cons, colf, List.map_cons]
    refine muL_turn hp (fun x hx => ?_) (by simpa using hne)
    obtain ⟨r, hr, rfl⟩ := List.mem_map.mp hx
    exact ⟨h.hne r (List.mem_cons_of_mem _ hr), hmin r hr⟩
  have memless : ∀ r ∈ lessL j h0 xs, ∃ x ∈ xs, r = addk x h0 (0 - (rf x j).fdiv (rf h0 j)) := fun r hr => by
    obtain ⟨x, hx, rfl⟩ := List.mem_map.mp hr
    exact ⟨x, hx, rfl⟩
  have newmem : ∀ r, r ∈ left ++ ((lessL j h0 xs).filter fun r => decide (rf r j = 0)) ++ (h0 :: (lessL j h0 xs).filter fun r => decide (rf r j ≠ 0)) ++ found → r ∈ left ++ (h0 :: xs) ++ found ∨ r ∈ lessL j h0 xs := fun r hr => by
    simp only [List.mem_append, List.mem_cons, List.mem_filter] at hr ⊢
    rcases hr with ((hr | hr) | (hr | hr)) | hr
    · exact .inl (.inl (.inl hr))
    · exact .inr hr.1
    · exact .inl (.inl (.inr (.inl hr)))
    · exact .inr hr.1
    · exact .inl (.inr hr)
  have pX := h.x h0 List.mem_cons_self
  have hpp : 0 < (rf h0 j).natAbs := by omega
  have hz2 : 1 ≤ X / (rf h0 j).natAbs + 2 := Nat.le_trans (by decide : 1 ≤ 2) (Nat.le_add_left _ _)
  refine ⟨M * (X / (rf h0 j).natAbs + 2), (rf h0 j).natAbs, pX, ⟨fun r hr => ?_, ?_, fun r hr i hi => ?_, fun r hr i hi => ?_, fun r hr => ?_, h.ech, h.lead, h.small, fun r hr i => ?_, fun r hr => ?_, hpp, ?_, ?_, ?_⟩, fall⟩
  · rcases newmem r hr with q | q
    · exact h.len r q
    · obtain ⟨x, hx, rfl⟩ := memless r q
      rw [addk_len _ (lx x hx), lx x hx]; exact l0
  · have e1 : Same (h0 :: lessL j h0 xs ++ (left ++ found)) (h0 :: xs ++ (left ++ found)) := same_shift l0 (fun r hr => h.len r (memx r hr)) fun r => 0 - (rf r j).fdiv (rf h0 j)
    have e2 : (h0 :: xs ++ (left ++ found)).Perm (left ++ (h0 :: xs) ++ found) := by
      rw [List.append_assoc left]
      exact (List.perm_append_comm_assoc _ _ _)
    have e3 : (left ++ ((lessL j h0 xs).filter fun r => decide (rf r j = 0)) ++ (h0 :: (lessL j h0 xs).filter fun r => decide (rf r j ≠ 0)) ++ found).Perm (h0 :: lessL j h0 xs ++ (left ++ found)) := by
      have f1 : (((lessL j h0 xs).filter fun r => decide (rf r j = 0)) ++ ((lessL j h0 xs).filter fun r => decide (rf r j ≠ 0))).Perm (lessL j h0 xs) := by
        have := filter_perm (fun r : Row => decide (rf r j = 0)) (lessL j h0 xs)
        have e : (fun r : Row => !decide (rf r j = 0)) = fun r => decide (rf r j ≠ 0) := by funext r; simp
        rw [e] at this; exact this
      have f2 : (left ++ ((lessL j h0 xs).filter fun r => decide (rf r j = 0)) ++ (h0 :: (lessL j h0 xs).filter fun r => decide (rf r j ≠ 0)) ++ found).Perm (left ++ (h0 :: (((lessL j h0 xs).filter fun r => decide (rf r j = 0)) ++ ((lessL j h0 xs).filter fun r => decide (rf r j ≠ 0)))) ++ found) := by
        refine List.Perm.append_right found ?_
        rw [List.append_assoc]
        exact List.Perm.append_left left List.perm_middle
      refine f2.trans ?_
      refine (List.Perm.append_right found (List.Perm.append_left left (f1.cons h0))).trans ?_
      rw [List.append_assoc left]
      exact (List.perm_append_comm_assoc _ _ _)
    exact (Same.of_perm e3).trans (e1.trans ((Same.of_perm e2).trans h.same))
  · rcases List.mem_append.mp hr with q | q
    · exact h.zero r q i hi
    · have hf := List.mem_filter.mp q
      by_cases e : i = j
      · subst e; exact of_decide_eq_true hf.2
      · obtain ⟨x, hx, rfl⟩ := memless r hf.1
        rw [rf_less (lx x hx), h.hzero x (List.mem_cons_of_mem _ hx) i (by omega), h.hzero h0 List.mem_cons_self i (by omega)]; simp
  · rcases List.mem_cons.mp hr with rfl | q
    · exact h.hzero r List.mem_cons_self i hi
    · obtain ⟨x, hx, rfl⟩ := memless r (List.mem_filter.mp q).1
      rw [rf_less (lx x hx), h.hzero x (List.mem_cons_of_mem _ hx) i hi, h.hzero h0 List.mem_cons_self i hi]; simp
  · rcases List.mem_cons.mp hr with rfl | q
    · exact hp
    · exact of_decide_eq_true (List.mem_filter.mp q).2
  · rcases newmem r hr with q | q
    · have := h.bd r q i
      have h2 : M * 1 ≤ M * (X / (rf h0 j).natAbs + 2) := Nat.mul_le_mul_left _ hz2
      omega
    · obtain ⟨x, hx, rfl⟩ := memless r q
      rw [rf_less (lx x hx)]
      have b1 := h.bd x (memx x hx) i
      have b2 := h.bd h0 mem0 i
      have b3 := quot_le hp (h.x x (List.mem_cons_of_mem _ hx))
      have b4 : ((rf x j).fdiv (rf h0 j) * rf h0 i).natAbs ≤ (X / (rf h0 j).natAbs + 1) * M := by
        rw [Int.natAbs_mul]; exact Nat.mul_le_mul b3 b2
      have b5 : M * (X / (rf h0 j).natAbs + 2) = M + (X / (rf h0 j).natAbs + 1) * M := by
        generalize X / (rf h0 j).natAbs = z
        grind
      omega
  · rcases List.mem_cons.mp hr with rfl | q
    · exact Nat.le_refl _
    · obtain ⟨x, hx, rfl⟩ := memless r (List.mem_filter.mp q).1
      rw [rf_less (lx x hx)]
      have : rf x j - (rf x j).fdiv (rf h0 j) * rf h0 j = (rf x j).fmod (rf h0 j) := by rw [Int.fmod_def, Int.mul_comm]
      rw [this]
      exact Nat.le_of_lt (fmod_abs hp)
  · have : 1 * 1 ≤ M * (X / (rf h0 j).natAbs + 2) := Nat.mul_le_mul h.mone hz2
    omega
  · have d1 : X / (rf h0 j).natAbs * (rf h0 j).natAbs ≤ X := Nat.div_mul_le_self _ _
    have k1 : M * (X / (rf h0 j).natAbs + 2) * (rf h0 j).natAbs ≤ M * X * 4 := by
      have e1 : M * (X / (rf h0 j).natAbs + 2) * (rf h0 j).natAbs = M * (X / (rf h0 j).natAbs * (rf h0 j).natAbs + 2 * (rf h0 j).natAbs) := by
        rw [Nat.mul_assoc, Nat.add_mul]
      rw [e1, Nat.mul_assoc]
      exact Nat.mul_le_mul_left _ (by omega)
    have k2 : 4 * 4 ^ muL ((h0 :: (lessL j h0 xs).filter fun r => decide (rf r j ≠ 0)).map fun r => rf r j) ≤ 4 ^ muL ((h0 :: xs).map fun r => rf r j) := by
      rw [← Nat.pow_succ']
      exact Nat.pow_le_pow_right (by decide) fall
    have k3 := Nat.mul_le_mul_right (4 ^ muL ((h0 :: (lessL j h0 xs).filter fun r => decide (rf r j ≠ 0)).map fun r => rf r j)) k1
    rw [Nat.mul_assoc (M * X) 4] at k3
    have k5 := Nat.mul_le_mul_left (M * X) k2
    have := h.pot
    omega
  · have hcnt := h.cnt
    have f1 : (((lessL j h0 xs).filter fun r => decide (rf r j = 0)) ++ ((lessL j h0 xs).filter fun r => decide (rf r j ≠ 0))).Perm (lessL j h0 xs) := by
      have := filter_perm (fun r : Row => decide (rf r j = 0)) (lessL j h0 xs)
      have e : (fun r : Row => !decide (rf r j = 0)) = fun r => decide (rf r j ≠ 0) := by funext r; simp
      rw [e] at this; exact this
    have f2 := f1.length_eq
    rw [List.length_append] at f2
    have f3 : (lessL j h0 xs).length = xs.length := by unfold lessL; rw [List.length_map]
    simp only [List.length_append, List.length_cons] at hcnt ⊢
    omega
theorem big_lt {z : Nat} {b : Nat} (h : z = 2 ^ (8 * b + 2)) : z + (z + 1) * z < 2 ^ (16 * b + 6) := by
  have e1 : (2 : Nat) ^ (16 * b + 6) = 2 ^ (8 * b + 2) * 2 ^ (8 * b + 2) * 4 := by
    rw [← Nat.pow_add, show (4 : Nat) = 2 ^ 2 by decide, ← Nat.pow_add]; congr 1; omega
  rw [e1, ← h]
  have h1 : 1 ≤ z := by rw [h]; exact Nat.pow_pos (by decide)
  have h2 : 1 * z ≤ z * z := Nat.mul_le_mul_right _ h1
  rw [Nat.add_mul]
  omega
theorem LH.none_ (h : LH w j R left [] found M X (2 ^ (8 * bc j + 2))) : LS w (j + 1) R left found := by
  have hle := h.le.1
  have hb : 2 ^ (8 * bc j + 2) < 2 ^ bc (j + 1) := Nat.pow_lt_pow_right (by decide) (by show _ < 16 * bc j + 6; omega)
  exact ⟨fun r hr => h.len r (by simpa using hr), by have := h.same; simpa using this, fun r hr i hi => h.zero r hr i (by omega), h.ech, fun f hf => Nat.lt_succ_of_lt (h.lead f hf), h.small, fun r hr i => Nat.lt_of_le_of_lt (Nat.le_trans (h.bd r (by simpa using hr) i) hle) hb, by have := h.cnt; simpa using this⟩
theorem LH.one_ {h0 one : Row} (h : LH w j R left [h0] found M X (2 ^ (8 * bc j + 2))) (hj : j < w) (hX : X ≤ 2 ^ bc j) (lo : one.length = w) {s : Int} (hs : s = 1 ∨ s = -1) (ho : ∀ i, rf one i = s * rf h0 i) (hpos : 0 < rf one j) :
    LS w (j + 1) R left (found.map (fun r => addk r one (0 - (rf r j).fdiv (rf one j))) ++ [one]) := by
  have mem0 : h0 ∈ left ++ [h0] ++ found := by simp
  have l0 := h.len h0 mem0
  have memf : ∀ f ∈ found, f ∈ left ++ [h0] ++ found := fun f hf => by simp [hf]
  have lf : ∀ f ∈ found, f.length = one.length := fun f hf => by rw [h.len f (memf f hf), lo]
  have hle := h.le.1
  have oz : ∀ i, i < j → rf one i = 0 := fun i hi => by rw [ho, h.hzero h0 (by simp) i hi]; simp
  have oabs : ∀ i, (rf one i).natAbs = (rf h0 i).natAbs := fun i => by
    rw [ho]
    rcases hs with rfl | rfl
    · simp
    · rw [Int.natAbs_mul]; simp
  have lone : leadN one = j := leadN_eq (by omega) oz (by omega)
  have newf : ∀ f ∈ found, leadN (addk f one (0 - (rf f j).fdiv (rf one j))) = leadN f ∧ lv (addk f one (0 - (rf f j).fdiv (rf one j))) = lv f := fun f hf => by
    have hl := h.lead f hf
    refine lead_same rfl (by rw [addk_len _ (lf f hf)]) (by rw [lf f hf, lo]; omega) fun i hi => ?_
    rw [rf_less (lf f hf), oz i (by omega)]; simp
  have sone : Same [one] [h0] := by
    constructor
    · intro r hr
      rw [List.mem_singleton.mp hr]
      exact ((Lat.row (R := [h0]) (r := h0) (by simp)).times s).of_eq fun i => (ho i).symm
    · intro r hr
      rw [List.mem_singleton.mp hr]
      refine ((Lat.row (R := [one]) (r := one) (by simp)).times s).of_eq fun i => ?_
      rw [ho]
      rcases hs with rfl | rfl <;> grind
  refine ⟨fun r hr => ?_, ?_, fun r hr i hi => h.zero r hr i (by omega), ?_, fun f hf => ?_, fun f hf => ?_, fun r hr i => ?_, ?_⟩
  · simp only [List.mem_append, List.mem_map, List.mem_singleton] at hr
    rcases hr with hr | ⟨f, hf, rfl⟩ | rfl
    · exact h.len r (by simp [hr])
    · rw [addk_len _ (lf f hf), lf f hf, lo]
    · exact lo
  · have e1 : Same (one :: found.map (fun r => addk r one (0 - (rf r j).fdiv (rf one j))) ++ left) (one :: found ++ left) := same_shift lo (fun f hf => by rw [lf f hf, lo]) _
    have e2 : (left ++ (found.map (fun r => addk r one (0 - (rf r j).fdiv (rf one j))) ++ [one])).Perm (one :: found.map (fun r => addk r one (0 - (rf r j).fdiv (rf one j))) ++ left) := by
      refine List.perm_append_comm.trans (List.Perm.append_right left ?_)
      exact List.perm_append_comm
    have e3 : Same (one :: found ++ left) (h0 :: found ++ left) := by
      constructor
      · intro r hr
        rcases List.mem_cons.mp (by simpa using hr : r ∈ one :: (found ++ left)) with rfl | hr
        · exact (sone.1 r (by simp)).mono fun x hx => by rw [List.mem_singleton.mp hx]; exact Lat.row (by simp)
        · exact Lat.row (show r ∈ h0 :: (found ++ left) from List.mem_cons_of_mem _ hr)
      · intro r hr
        rcases List.mem_cons.mp (by simpa using hr : r ∈ h0 :: (found ++ left)) with rfl | hr
        · exact (sone.2 r (by simp)).mono fun x hx => by rw [List.mem_singleton.mp hx]; exact Lat.row (by simp)
        · exact Lat.row (show r ∈ one :: (found ++ left) from List.mem_cons_of_mem _ hr)
    have e4 : (h0 :: found ++ left).Perm (left ++ [h0] ++ found) := by
      refine List.perm_append_comm.trans ?_
      rw [List.append_assoc]; exact .refl _
    exact (Same.of_perm e2).trans (e1.trans (e3.trans ((Same.of_perm e4).trans h.same)))
  · refine Ech.append ?_ ⟨fun f hf => by rw [List.mem_singleton.mp hf]; exact lo, fun f hf => by rw [List.mem_singleton.mp hf, lone]; exact ⟨hj, by unfold lv; rw [lone]; exact hpos⟩, List.pairwise_singleton _ _⟩ ?_
    · refine ⟨fun f hf => ?_, fun f hf => ?_, ?_⟩
      · obtain ⟨g, hg, rfl⟩ := List.mem_map.mp hf
        rw [addk_len _ (lf g hg), lf g hg, lo]
      · obtain ⟨g, hg, rfl⟩ := List.mem_map.mp hf
        rw [(newf g hg).1, (newf g hg).2]; exact h.ech.pos g hg
      · rw [List.pairwise_map]
        refine h.ech.rise.imp_of_mem fun {a b} ha hb q => ?_
        rw [(newf a ha).1, (newf b hb).1]; exact q
    · intro f hf g hg
      obtain ⟨a, ha, rfl⟩ := List.mem_map.mp hf
      rw [List.mem_singleton.mp hg, (newf a ha).1, lone]
      exact h.lead a ha
  · rcases List.mem_append.mp hf with hf | hf
    · obtain ⟨a, ha, rfl⟩ := List.mem_map.mp hf
      rw [(newf a ha).1]; have := h.lead a ha; omega
    · rw [List.mem_singleton.mp hf, lone]; omega
  · rcases List.mem_append.mp hf with hf | hf
    · obtain ⟨a, ha, rfl⟩ := List.mem_map.mp hf
      rw [(newf a ha).2, (newf a ha).1]; exact h.small a ha
    · rw [List.mem_singleton.mp hf]
      unfold lv
      rw [lone]
      have h1 := oabs j
      have h2 := h.x h0 (by simp)
      have e := pow_cast (bc j)
      rw [e]
      generalize (2 : Nat) ^ bc j = z at hX ⊢
      omega
  · have big := big_lt (z := 2 ^ (8 * bc j + 2)) (b := bc j) rfl
    have hge : 2 ^ (8 * bc j + 2) ≤ 2 ^ (8 * bc j + 2) + (2 ^ (8 * bc j + 2) + 1) * 2 ^ (8 * bc j + 2) := Nat.le_add_right _ _
    show _ < 2 ^ (16 * bc j + 6)
    simp only [List.mem_append, List.mem_map, List.mem_singleton] at hr
    rcases hr with hr | ⟨f, hf, rfl⟩ | rfl
    · exact Nat.lt_of_le_of_lt (Nat.le_trans (Nat.le_trans (h.bd r (by simp [hr]) i) hle) hge) big
    · rw [rf_less (lf f hf)]
      have b1 := Nat.le_trans (h.bd f (memf f hf) i) hle
      have b2 : (rf one i).natAbs ≤ 2 ^ (8 * bc j + 2) := by rw [oabs]; exact Nat.le_trans (h.bd h0 mem0 i) hle
      have b3 := quot_le (x := rf f j) (p := rf one j) (X := 2 ^ (8 * bc j + 2)) (by omega) (Nat.le_trans (h.bd f (memf f hf) j) hle)
      have b3' : 2 ^ (8 * bc j + 2) / (rf one j).natAbs ≤ 2 ^ (8 * bc j + 2) := Nat.div_le_self _ _
      have b4 : ((rf f j).fdiv (rf one j) * rf one i).natAbs ≤ (2 ^ (8 * bc j + 2) + 1) * 2 ^ (8 * bc j + 2) := by
        rw [Int.natAbs_mul]; exact Nat.mul_le_mul (Nat.le_trans b3 (Nat.add_le_add_right b3' 1)) b2
      have b5 : (rf f i - (rf f j).fdiv (rf one j) * rf one i).natAbs ≤ (rf f i).natAbs + ((rf f j).fdiv (rf one j) * rf one i).natAbs := by omega
      exact Nat.lt_of_le_of_lt (Nat.le_trans b5 (Nat.add_le_add b1 b4)) big
    · rw [oabs]
      exact Nat.lt_of_le_of_lt (Nat.le_trans (Nat.le_trans (h.bd h0 mem0 i) hle) hge) big
  · have := h.cnt
    simp at this ⊢; omega
theorem LS.ends (h : LS w w R left found) : Form w R found := by
  refine ⟨h.ech, Same.trans ⟨fun r hr => Lat.row (List.mem_append_right _ hr), fun r hr => ?_⟩ h.same⟩
  rcases List.mem_append.mp hr with hr | hr
  · refine Lat.zero.of_eq fun i => ?_
    by_cases q : i < w
    · exact (h.zero r hr i q).symm
    · exact (rf_out (by rw [h.len r (List.mem_append_left _ hr)]; omega)).symm
  · exact Lat.row hr
end
end K94

set_option Elab.async false
set_option linter.all false
set_option maxRecDepth 100000
set_option maxHeartbeats 4000000
namespace K94
open PySem PySem.Spec PyProof.Rows L2
section
variable {P : Program} {w : World} {K : PySem.W.Frag} {mg : Str → Option Value} {base : Heap} {T : TabL}
/-! ### lists of rows of their own -/
def RL (K : PySem.W.Frag) (H : Hp) (p : Addr) (R : List Row) : Prop := ∃ as : List Addr, H p = some (.lst (as.map V.ref)) ∧ All2 (RowAt K H) as R
theorem Ex.rl {H H' : Hp} {p : Addr} {R : List Row} (x : Ex T H H') (h : RL K H p R) : RL K H' p R := by
  obtain ⟨as, h1, h2⟩ := h
  exact ⟨as, x.lst h1, x.all h2⟩
theorem RL.get {H : Hp} {p : Addr} {R : List Row} (h : RL K H p R) {i : Nat} {r : Row} (hr : R[i]? = some r) : ∃ xs q, H p = some (.lst xs) ∧ xs[i]? = some (.ref q) ∧ RowAt K H q r := by
  obtain ⟨as, h1, h2⟩ := h
  obtain ⟨a, ha, hra⟩ := h2.get' hr
  exact ⟨_, a, h1, by rw [List.getElem?_map, ha]; rfl, hra⟩
theorem RL.len {H : Hp} {p : Addr} {R : List Row} (h : RL K H p R) : ∃ xs, H p = some (.lst xs) ∧ xs.length = R.length := by
  obtain ⟨as, h1, h2⟩ := h
  exact ⟨_, h1, by rw [List.length_map, h2.length]⟩
theorem ep_lenR {σ : L2.St} {H : Hp} {ta : TE} {p : Addr} {R : List Row} (h : RL K H p R) (a : Ep ta σ H (.ref p)) : Ep (tCB (rLenN K) (tCons ta tNil)) σ H (.int (R.length : Int)) := fun Q q => by
  obtain ⟨xs, h1, h2⟩ := h.len
  exact a _ ⟨p, xs, R.length, rfl, .inl (.of h1), h2, q⟩
theorem ep_rl {σ : L2.St} {H : Hp} {ta tb tc : TE} {p : Addr} {R : List Row} {r : Row} {i j : Nat} {x y : Int} (h : RL K H p R) (hr : R[i]? = some r) (a : Ep ta σ H (.ref p)) (b : Ep tb σ H (.int x)) (hx : x = (i : Int)) (c : Ep tc σ H (.int y)) (hy : y = (j : Int)) (hj : j < r.length) :
    Ep (tOp (rRow K) (tOp (rLk K) ta tb) tc) σ H (.int (rf r j)) := by
  obtain ⟨xs, q, h1, h2, h3⟩ := h.get hr
  exact ep_row (ep_l a b (.of h1) hx h2) c h3 hy hj
theorem take_filter {R : List Row} {i : Nat} {r : Row} (f : Row → Bool) (h : R[i]? = some r) : (R.take (i + 1)).filter f = if f r = true then (R.take i).filter f ++ [r] else (R.take i).filter f := by
  rw [List.take_succ, h, List.filter_append]
  simp only [Option.toList_some, List.filter_cons, List.filter_nil]
  split <;> simp
/-- [row for row in rows if ..] -/
theorem filt_lc {σ : L2.St} {H : Hp} {tl : TE} {tt : TT} {vs : List Nat} {s : Nat} {R : List Row} {Q : VK} (f : Row → Bool) (hl : ∀ Q : VK, (∀ H1 p, Ex T H H1 → RL K H1 p R → Q (.ref p) H1) → tl σ H Q) (hn : R.length ≤ 1000)
    (hset : ∀ x, wipe ((wipe σ vs).set s (some x)) vs = wipe σ vs ∧ ((wipe σ vs).set s (some x))[s]? = some (some x))
    (hf : ∀ H1 q r (Q : Bool → Hp → Prop), Ex T H H1 → RowAt K H1 q r → r ∈ R → (∀ H2, Ex T H1 H2 → Q (f r) H2) → tt ((wipe σ vs).set s (some (.ref q))) H1 Q)
    (k : ∀ H' p, Ex T H H' → RL K H' p (R.filter f) → Q (.ref p) H') : tLc (iList K tl) (gName s) tt (tVar s) vs σ H Q := by
  refine hl _ fun H1 p e1 ⟨as, h1, h2⟩ => ⟨p, rfl, ⟨_, .of h1⟩, fun D hD => ?_⟩
  have ll := h2.length
  refine lc_go (T := T) walk_list hD (by rw [List.length_map]; omega) (fun i acc H => ∃ bs : List Addr, acc = bs.map V.ref ∧ All2 (RowAt K H) bs ((R.take i).filter f)) ⟨[], rfl, .nil⟩ (fun _ e => .of (e.lst h1)) ?_ fun acc H2 hD2 e2 _ ⟨bs, hb, al⟩ => k H2 D (e1.trans e2) ⟨bs, hb ▸ hD2, by rw [List.length_map, ll, List.take_length] at al; exact al⟩
  rintro i x acc H2 H3 hi hacc _ e ⟨bs, rfl, al⟩ ⟨rfl, hx⟩ K1 K0 g1 g0
  obtain ⟨q, hq, rfl⟩ := ref_get hx
  obtain ⟨r, hr, hra⟩ := (e.all h2).get hq
  refine ⟨(hset _).1, hf _ q r _ (e1.trans e) hra (List.mem_of_getElem? hr) fun H4 e4 => ?_⟩
  refine ite2 (fun hh => ⟨_, (hset _).2, g1 _ _ e4 ⟨bs ++ [q], by rw [List.map_append]; rfl, ?_⟩⟩) fun hh => g0 _ e4 ⟨bs, rfl, ?_⟩
  · rw [take_filter f hr, if_pos hh]
    exact rows_upd ((e4.all al).snoc (e4.row hra)) (e4.lst hacc)
  · rw [take_filter f hr, if_neg hh]
    exact e4.all al
/-- [added(row, ..) for row in rows] -/
theorem map_lc {σ : L2.St} {H : Hp} {tl te : TE} {vs : List Nat} {s : Nat} {R : List Row} {Q : VK} (f : Row → Row) (hl : ∀ Q : VK, (∀ H1 p, Ex T H H1 → RL K H1 p R → Q (.ref p) H1) → tl σ H Q) (hn : R.length ≤ 1000)
    (hset : ∀ x, wipe ((wipe σ vs).set s (some x)) vs = wipe σ vs)
    (hf : ∀ H1 q r (Q : VK), Ex T H H1 → RowAt K H1 q r → r ∈ R → (∀ H2 p, Ex T H1 H2 → RowAt K H2 p (f r) → Q (.ref p) H2) → te ((wipe σ vs).set s (some (.ref q))) H1 Q)
    (k : ∀ H' p, Ex T H H' → RL K H' p (R.map f) → Q (.ref p) H') : tLc (iList K tl) (gName s) tYes te vs σ H Q := by
  refine hl _ fun H1 p e1 ⟨as, h1, h2⟩ => ⟨p, rfl, ⟨_, .of h1⟩, fun D hD => ?_⟩
  have ll := h2.length
  refine lc_obj (T := T) (A := RowAt K) walk_list hD (by rw [List.length_map]; omega) (fun i => f (R.getD i [])) (fun H H' p b h e => e.row h) (fun H p b l l' h hD => row_upd h hD) (fun _ e => .of (e.lst h1)) ?_ gmono_name fun bs H2 hD2 al e2 => k H2 D (e1.trans e2) ⟨bs, hD2, ?_⟩
  · rintro i x H2 H3 hi e ⟨rfl, hx⟩ K1 hk
    obtain ⟨q, hq, rfl⟩ := ref_get hx
    obtain ⟨r, hr, hra⟩ := (e.all h2).get hq
    refine ⟨hset _, hf _ q r _ (e1.trans e) hra (List.mem_of_getElem? hr) fun H4 p e4 h4 => hk p H4 e4 ?_⟩
    simpa [hr] using h4
  · rw [List.length_map, ll] at al
    have h := congrArg (List.map f) (rows_range (R := R))
    rw [List.map_map] at h
    have h : (List.range R.length).map (fun i => f (R.getD i [])) = R.map f := h
    rw [h] at al; exact al
/-- a list's slice -/
theorem ep_slice {σ : L2.St} {H : Hp} {ta : TE} {tl th : TO} {p : Addr} {R R' : List Row} {lo hi : Option Int} {Q : VK} (h : RL K H p R) (a : Ep ta σ H (.ref p)) (h1 : ∀ Q : Option Int → Hp → Prop, Q lo H → tl σ H Q) (h2 : ∀ Q : Option Int → Hp → Prop, Q hi H → th σ H Q)
    (hc : ∀ as : List Addr, as.length = R.length → ∃ bs, cutV (as.map V.ref) lo hi = bs.map V.ref ∧ (∀ H', All2 (RowAt K H') as R → All2 (RowAt K H') bs R')) (k : ∀ H' q, Ex T H H' → RL K H' q R' → Q (.ref q) H') : tSl (rSlL K) ta tl th σ H Q := by
  obtain ⟨as, g1, g2⟩ := h
  obtain ⟨bs, c1, c2⟩ := hc as g2.length
  refine a _ (h1 _ (h2 _ ⟨p, _, rfl, .of g1, fun q hq => ?_⟩))
  rw [c1]
  exact k _ q (.new hq) ⟨bs, upd_same, c2 _ (Ex.all (T := T) (.new hq) g2)⟩
theorem cat_rl {H : Hp} {p q : Addr} {R S : List Row} {Q : VK} (h1 : RL K H p R) (h2 : RL K H q S) (hn : R.length + S.length ≤ 1000) (k : ∀ H' u, Ex T H H' → RL K H' u (R ++ S) → Q (.ref u) H') : rCat (.ref p) (.ref q) H Q := by
  obtain ⟨as, a1, a2⟩ := h1
  obtain ⟨bs, b1, b2⟩ := h2
  have l1 := a2.length
  have l2 := b2.length
  refine ⟨p, q, _, _, rfl, rfl, a1, b1, sz (by rw [List.length_map, List.length_map]; omega), fun u hu => k _ u (.new hu) ⟨as ++ bs, by rw [List.map_append]; exact upd_same, Ex.all (T := T) (.new hu) (All2.append b2 a2)⟩⟩
theorem LS.formOk {w' : Nat} {R left found : List Row} (h : LS w' w' R left found) (hw : w' ≤ 3) : FormOk w' R found := by
  refine ⟨h.ends, ⟨fun f hf => h.len f (List.mem_append_right _ hf), fun f hf hl => ⟨(h.ech.pos f hf).2, h.small f hf⟩, fun f hf j => pow_le (h.bd f (List.mem_append_right _ hf) j) ?_⟩, by have := h.cnt; omega⟩
  rcases (show w' = 0 ∨ w' = 1 ∨ w' = 2 ∨ w' = 3 by omega) with rfl | rfl | rfl | rfl <;> decide
def spLsteps (T : TabL) (K : PySem.W.Frag) : Sp := fun vs H Q _ => ∃ (a : Addr) (m w : Nat) (R : List Row), vs = [.ref a, .int (w : Int)] ∧ RL K H a R ∧ Small m w R ∧ LamX.Tabs T H ∧ ∀ H' q F, Ex T H H' → RL K H' q F → FormOk w R F → Q (.ref q) H'
theorem sc_Lsteps : FnScope ["_law_rows", "_law_wide", "_law_left", "_law_found", "_law_j", "_law_here", "_law_less", "_law_one", "_law_row"] ["_law_rows", "_law_wide"] (defScope s_Lsteps) := ⟨rfl, rfl, rfl, by decide +kernel, rfl, by decide +kernel, by decide +kernel⟩
theorem ok_Lsteps {cd Pt : Addr} (DC : DefC K mg base "_law_steps" s_Lsteps cd Pt) (hmT : (Pt, lamQ "_law_steps" s_Lsteps) ∈ T) (hu : ∀ q ∈ T, q.1 = Pt → q.2 = lamQ "_law_steps" s_Lsteps) (c_Llead : C8.Cal P w K mg base 1 "_law_lead" (spLead K) []) (c_Ladded : C8.Cal P w K mg base 1 "_law_added" (spAdded T K) []) (B : Bi mg) : C8.Cal P w K mg base 3 "_law_steps" (spLsteps T K) [] := by
  refine DC.cal sc_Lsteps (fun vs H Q E h => ?_) (fun _ _ _ _ _ _ us hl => match us, hl with | [_, _], _ => rfl) (fun f A outer s H vs Q E hr h => ?_)
  · obtain ⟨a, m, w', R, rfl, _⟩ := h
    rfl
  obtain ⟨a, m, w', R, rfl, hR, sm, hT, k⟩ := h
  refine ⟨_,
  (pss_cons (ps_setLc (i := 2) (own := [("_law_row", 8)]) (by rfl) sc_Lsteps.nd rfl rfl (sw_true rfl rfl rfl (by decide +kernel)) (pi_lK K rfl (pv 0)) (blkOk_by (own := [("_law_row", 8)]) (N := ["_law_rows", "_law_wide", "_law_left", "_law_found", "_law_j", "_law_here", "_law_less", "_law_one", "_law_row"]) (sc := defScope s_Lsteps) (by decide +kernel)) (fun _ _ _ _ _ => (pg_name (i := 8) sc_Lsteps.nd rfl (by first | exact Or.inl rfl | exact Or.inr rfl))) (fun _ _ _ _ _ => (pts_one (pt_cmpR op_lt (C8.pe_c c_Llead hr (by decide) rfl (pa_cons (pv 8) pa_nil)) (pv 1) (nomark _)))) (fun _ _ _ _ _ => (pv 8)))
  (pss_cons (ps_set (i := 3) sc_Lsteps.nd rfl (by first | exact Or.inl rfl | exact Or.inr rfl) (pe_lst pa_nil))
  (pss_cons (ps_for PassesOwn.never rfl (pi_rgN rfl B.range (pa_cons (pv 1) pa_nil)) (pg_name (i := 4) sc_Lsteps.nd rfl (by first | exact Or.inl rfl | exact Or.inr rfl))
    (pss_cons (ps_set (i := 5) sc_Lsteps.nd rfl (by first | exact Or.inl rfl | exact Or.inr rfl) (pe_lc (own := [("_law_row", 8)]) (by rfl) sc_Lsteps.nd (pi_lK K rfl (pv 2)) (blkOk_by (own := [("_law_row", 8)]) (N := ["_law_rows", "_law_wide", "_law_left", "_law_found", "_law_j", "_law_here", "_law_less", "_law_one", "_law_row"]) (sc := defScope s_Lsteps) (by decide +kernel)) (fun _ _ _ _ _ => (pg_name (i := 8) sc_Lsteps.nd rfl (by first | exact Or.inl rfl | exact Or.inr rfl))) (fun _ _ _ _ _ => (pts_one (pt_cmpR op_ne (pe_ix (ix_row K) (pv 8) (pv 4) (fun _ _ => rfl)) pe_int (nomark _)))) (fun _ _ _ _ _ => (pv 8))))
    (pss_cons (ps_setLc (i := 2) (own := [("_law_row", 8)]) (by rfl) sc_Lsteps.nd rfl rfl (sw_true rfl rfl rfl (by decide +kernel)) (pi_lK K rfl (pv 2)) (blkOk_by (own := [("_law_row", 8)]) (N := ["_law_rows", "_law_wide", "_law_left", "_law_found", "_law_j", "_law_here", "_law_less", "_law_one", "_law_row"]) (sc := defScope s_Lsteps) (by decide +kernel)) (fun _ _ _ _ _ => (pg_name (i := 8) sc_Lsteps.nd rfl (by first | exact Or.inl rfl | exact Or.inr rfl))) (fun _ _ _ _ _ => (pts_one (pt_cmpR op_eq (pe_ix (ix_row K) (pv 8) (pv 4) (fun _ _ => rfl)) pe_int (nomark _)))) (fun _ _ _ _ _ => (pv 8)))
    (pss_cons (ps_while PassesOwn.never (pt_cmpR op_gt (pe_callB (call_lenN K) (by rfl) B.len PySem.boot_len (pa_cons (pv 5) pa_nil)) pe_int (nomark _))
      (pss_cons (ps_set (i := 5) sc_Lsteps.nd rfl (by first | exact Or.inl rfl | exact Or.inr rfl) (pe_sortrow (k := 0) (ij := 4) hr (by rfl) B.sorted B.abs (pv 5) DC.tab rfl hmT hu (lamP_by (sc := defScope s_Lsteps) (by decide +kernel)) (kn1 rfl rfl rfl rfl rfl) rfl (fun _ _ _ _ _ _ => rfl)))
      (pss_cons (ps_setLc (i := 6) (own := [("_law_row", 8)]) (by rfl) sc_Lsteps.nd rfl rfl (sw_true rfl rfl rfl (by decide +kernel)) (pi_lK K rfl (pe_slice (sl_lK K) (pv 5) (po_some pe_int) po_none)) (blkOk_by (own := [("_law_row", 8)]) (N := ["_law_rows", "_law_wide", "_law_left", "_law_found", "_law_j", "_law_here", "_law_less", "_law_one", "_law_row"]) (sc := defScope s_Lsteps) (by decide +kernel)) (fun _ _ _ _ _ => (pg_name (i := 8) sc_Lsteps.nd rfl (by first | exact Or.inl rfl | exact Or.inr rfl))) (fun _ _ _ _ _ => pts_nil) (fun _ _ _ _ _ => (C8.pe_c c_Ladded hr (by decide) rfl (pa_cons (pv 8) (pa_cons (pe_ix (ix_l K) (pv 5) pe_int (fun _ _ => rfl)) (pa_cons (pe_op op_sub pe_int (pe_op op_fdivB (pe_ix (ix_row K) (pv 8) (pv 4) (fun _ _ => rfl)) (pe_ix (ix_row K) (pe_ix (ix_l K) (pv 5) pe_int (fun _ _ => rfl)) (pv 4) (fun _ _ => rfl)))) pa_nil))))))
      (pss_cons (ps_set (i := 2) sc_Lsteps.nd rfl (by first | exact Or.inl rfl | exact Or.inr rfl) (pe_op op_cat (pv 2) (pe_lc (own := [("_law_row", 8)]) (by rfl) sc_Lsteps.nd (pi_lK K rfl (pv 6)) (blkOk_by (own := [("_law_row", 8)]) (N := ["_law_rows", "_law_wide", "_law_left", "_law_found", "_law_j", "_law_here", "_law_less", "_law_one", "_law_row"]) (sc := defScope s_Lsteps) (by decide +kernel)) (fun _ _ _ _ _ => (pg_name (i := 8) sc_Lsteps.nd rfl (by first | exact Or.inl rfl | exact Or.inr rfl))) (fun _ _ _ _ _ => (pts_one (pt_cmpR op_eq (pe_ix (ix_row K) (pv 8) (pv 4) (fun _ _ => rfl)) pe_int (nomark _)))) (fun _ _ _ _ _ => (pv 8)))))
      (pss_one (ps_set (i := 5) sc_Lsteps.nd rfl (by first | exact Or.inl rfl | exact Or.inr rfl) (pe_op op_cat (pe_slice (sl_lK K) (pv 5) po_none (po_some pe_int)) (pe_lc (own := [("_law_row", 8)]) (by rfl) sc_Lsteps.nd (pi_lK K rfl (pv 6)) (blkOk_by (own := [("_law_row", 8)]) (N := ["_law_rows", "_law_wide", "_law_left", "_law_found", "_law_j", "_law_here", "_law_less", "_law_one", "_law_row"]) (sc := defScope s_Lsteps) (by decide +kernel)) (fun _ _ _ _ _ => (pg_name (i := 8) sc_Lsteps.nd rfl (by first | exact Or.inl rfl | exact Or.inr rfl))) (fun _ _ _ _ _ => (pts_one (pt_cmpR op_ne (pe_ix (ix_row K) (pv 8) (pv 4) (fun _ _ => rfl)) pe_int (nomark _)))) (fun _ _ _ _ _ => (pv 8))))))))))
    (pss_one (ps_if (pt_cmpR (op_neD (room_eq hr)) (pv 5) (pe_lst pa_nil) (nomark _))
      (pss_cons (ps_set (i := 7) sc_Lsteps.nd rfl (by first | exact Or.inl rfl | exact Or.inr rfl) (pe_ifExp (pt_cmpR op_gt (pe_ix (ix_row K) (pe_ix (ix_l K) (pv 5) pe_int (fun _ _ => rfl)) (pv 4) (fun _ _ => rfl)) pe_int (nomark _)) (pe_ix (ix_l K) (pv 5) pe_int (fun _ _ => rfl)) (C8.pe_c c_Ladded hr (by decide) rfl (pa_cons (pe_op (op_rep1 K) (pe_tup (pa_cons pe_int pa_nil)) (pv 1)) (pa_cons (pe_ix (ix_l K) (pv 5) pe_int (fun _ _ => rfl)) (pa_cons (pe_un un_neg pe_int) pa_nil))))))
      (pss_one (ps_set (i := 3) sc_Lsteps.nd rfl (by first | exact Or.inl rfl | exact Or.inr rfl) (pe_op op_cat (pe_lc (own := [("_law_row", 8)]) (by rfl) sc_Lsteps.nd (pi_lK K rfl (pv 3)) (blkOk_by (own := [("_law_row", 8)]) (N := ["_law_rows", "_law_wide", "_law_left", "_law_found", "_law_j", "_law_here", "_law_less", "_law_one", "_law_row"]) (sc := defScope s_Lsteps) (by decide +kernel)) (fun _ _ _ _ _ => (pg_name (i := 8) sc_Lsteps.nd rfl (by first | exact Or.inl rfl | exact Or.inr rfl))) (fun _ _ _ _ _ => pts_nil) (fun _ _ _ _ _ => (C8.pe_c c_Ladded hr (by decide) rfl (pa_cons (pv 8) (pa_cons (pv 7) (pa_cons (pe_op op_sub pe_int (pe_op op_fdivB (pe_ix (ix_row K) (pv 8) (pv 4) (fun _ _ => rfl)) (pe_ix (ix_row K) (pv 7) (pv 4) (fun _ _ => rfl)))) pa_nil)))))) (pe_lst (pa_cons (pv 7) pa_nil))))))
      pss_nil))))))
  (pss_one (ps_ret (pv 3)))))), ?_⟩
  have hm3 := sm.hm
  have hw3 := sm.hw
  have hb9 : ∀ c, c < w' → bc c ≤ 1638 := fun c hc => by
    rcases (show c = 0 ∨ c = 1 ∨ c = 2 by omega) with rfl | rfl | rfl <;> decide
  -- left
  refine seq_asg (filt_lc (T := T) (fun r => decide (leadN r < w')) (fun Q q => ⟨_, rfl, q H a (.refl H) hR⟩) (by rw [sm.tab.len]; omega) (fun x => ⟨rfl, rfl⟩) (fun H1 q r Q e hr hm hq => ?_) fun H1 pl e1 hl => ?_)
  · have rl := sm.tab.wid r hm
    refine ⟨_, rfl, q, r, rfl, hr, by omega, _, rfl, _, _, rfl, rfl, _, rfl, ?_⟩
    have : decide ((leadN r : Int) < (w' : Int)) = decide (leadN r < w') := by
      by_cases z : leadN r < w'
      · rw [decide_eq_true z, decide_eq_true (by omega)]
      · rw [decide_eq_false z, decide_eq_false (by omega)]
    rw [this]; exact hq H1 (.refl H1)
  refine ⟨Nat.zero_le _, fun pf hpf => ?_⟩
  have e2 : Ex T H1 (upd H1 pf (.lst [])) := .new hpf
  refine ⟨_, rfl, _, w', rfl, rfl, by omega, for_it walk_N0 (fun j σ H' => ∃ (left found : List Row) (pl pf : Addr) (u4 u5 u6 u7 u8 : Option V), Ex T H H' ∧ RL K H' pl left ∧ RL K H' pf found ∧ LS w' j R left found ∧ σ = [some (.ref a), some (.int (w' : Int)), some (.ref pl), some (.ref pf), u4, u5, u6, u7, u8])
    ⟨_, [], pl, pf, _, _, _, _, _, e1.trans e2, e2.rl hl, ⟨[], upd_same, .nil⟩, .start sm.tab hm3 (fun r hr i => ?_), rfl⟩ (fun _ _ _ _ _ => trivial) ?_ ?_⟩
  · obtain ⟨i', _, rfl⟩ := mem_getD sm.tab hr
    exact sm.bd i' i
  · rintro j x σ H2 H3 hj ⟨left, found, pl, pf, u4, u5, u6, u7, u8, ex, hl, hf, ls, rfl⟩ ⟨rfl, rfl⟩
    have hbj := hb9 j hj
    have lsc := ls.cnt
    have lenL : ∀ r ∈ left, j < r.length := fun r hr => by rw [ls.len r (List.mem_append_left _ hr)]; exact hj
    obtain ⟨lh0, hmu⟩ := ls.open_
    -- here, left
    refine seq_asg (filt_lc (T := T) (fun r => decide (rf r j ≠ 0)) (fun Q q => ⟨_, rfl, q _ pl (.refl _) hl⟩) (by omega) (fun x => ⟨rfl, rfl⟩) (fun H4 q r Q e hr hm hq => et_ne (ep_row (ep_var rfl) (ep_var rfl) hr rfl (lenL r hm)) ep_c _ (hq H4 (.refl H4))) fun H4 ph e4 hh => ?_)
    refine seq_asg (filt_lc (T := T) (fun r => decide (rf r j = 0)) (fun Q q => ⟨_, rfl, q _ pl (.refl _) (e4.rl hl)⟩) (by omega) (fun x => ⟨rfl, rfl⟩) (fun H5 q r Q e hr hm hq => et_eq (ep_row (ep_var rfl) (ep_var rfl) hr rfl (lenL r hm)) ep_c _ (hq H5 (.refl H5))) fun H5 pl2 e5 hl2 => ?_)
    have ex5 := (ex.trans e4).trans e5
    -- while
    refine ⟨fun n σ H' => ∃ (left here : List Row) (pl ph : Addr) (M X : Nat) (u6 u7 u8 : Option V), Ex T H H' ∧ RL K H' pl left ∧ RL K H' ph here ∧ RL K H' pf found ∧ LH w' j R left here found M X (2 ^ (8 * bc j + 2)) ∧ X ≤ 2 ^ bc j ∧ n = muL (here.map fun r => rf r j) ∧
      σ = [some (.ref a), some (.int (w' : Int)), some (.ref pl), some (.ref pf), some (.int (j : Int)), some (.ref ph), u6, u7, u8], ⟨_, _, _, pl2, ph, _, _, _, _, _, ex5, hl2, e5.rl hh, (e4.trans e5).rl hf, lh0, Nat.le_refl _, rfl, rfl⟩, ?_⟩
    rintro n σ H6 ⟨left, here, pl, ph, M, X, u6, u7, u8, ex6, hl6, hh6, hf6, lh, hX, rfl, rfl⟩
    have hle := lh.le
    have cnt := lh.cnt
    have lenH : ∀ r ∈ here, r.length = w' := fun r hr => lh.len r (by simp [hr])
    have psb : 2 ^ (8 * bc j + 2) < 2 ^ 14000 := Nat.pow_lt_pow_right (by decide) (by omega)
    have X9 : X < 2 ^ 1700 := Nat.lt_of_le_of_lt hX (Nat.pow_lt_pow_right (by decide) (by omega))
    refine et_i0 (g := fun i j => decide (j < i)) (ep_lenR hh6 (ep_var rfl)) ep_c _ ?_
    refine ite2 (fun hgt => ?_) fun hle1 => ?_
    · have hgt : 1 < here.length := by
        have := of_decide_eq_true hgt
        omega
      refine ⟨fun σ' H' => _, fun _ _ h => h, ?_⟩
      obtain ⟨as, ha1, ha2⟩ := id hh6
      refine ⟨_, rfl, ex6.tabs hT, ph, as, here, j, rfl, ha1, rfl, ha2, fun r hr => by rw [lenH r hr]; exact hj, ex6.tabs hT, fun H7 ph7 as7 here7 e7 hs7 hr7 perm pw => ?_⟩
      have lh7 := lh.perm perm
      have hlen7 := perm.length_eq
      cases here7 with
      | nil => simp at hlen7; omega
      | cons h0 xs =>
        have hne : xs ≠ [] := by
          rintro rfl
          simp at hlen7; omega
        have hmin : ∀ r ∈ xs, (rf h0 j).natAbs ≤ (rf r j).natAbs := fun r hr => (List.pairwise_cons.mp pw).1 r hr
        obtain ⟨M', X', hX', lh8, fall⟩ := lh7.turn hmin hne
        have hp : rf h0 j ≠ 0 := lh7.hne h0 List.mem_cons_self
        have len0 := lh7.len h0 (by simp)
        have lenx : ∀ r ∈ xs, r.length = w' := fun r hr => lh7.len r (by simp [hr])
        have rl7 : RL K H7 ph7 (h0 :: xs) := ⟨as7, hs7, hr7⟩
        have xc : xs.length + 1 = here.length := by simpa using hlen7
        -- less
        refine seq_asg (map_lc (T := T) (fun r => addk r h0 (0 - (rf r j).fdiv (rf h0 j))) (R := xs) (fun Q q => ep_slice (T := T) (R' := xs) rl7 (ep_var rfl) (fun Q q => ⟨1, rfl, q⟩) (fun Q q => q) (fun as hl => ?_) fun H8 p e8 h8 => q H8 p e8 h8) (by omega) (fun x => rfl) (fun H8 q r Q e8 hr hm hq => ?_) fun H8 pls e8 hls => ?_)
        · refine ⟨as.drop 1, by rw [List.map_drop]; exact cut_drop _ 1, fun H' h => h.drop 1⟩
        · obtain ⟨ys, q0, y1, y2, y3⟩ := (e8.rl rl7).get (i := 0) (r := h0) rfl
          have bq := quot_le hp (lh7.x r (List.mem_cons_of_mem _ hm))
          have bq2 : X / (rf h0 j).natAbs ≤ X := Nat.div_le_self _ _
          have hrj : j < r.length := by rw [lenx r hm]; exact hj
          have kb : (0 - (rf r j).fdiv (rf h0 j)).natAbs < 2 ^ 14001 := by
            have z : (0 - (rf r j).fdiv (rf h0 j)).natAbs = ((rf r j).fdiv (rf h0 j)).natAbs := by omega
            rw [z]
            have := Nat.lt_of_le_of_lt (Nat.le_trans bq (Nat.add_le_add_right (Nat.le_trans bq2 hle.2) 1)) (Nat.succ_lt_succ psb)
            exact Nat.lt_of_lt_of_le this (by rw [Nat.pow_succ]; have : 1 ≤ 2 ^ 14000 := Nat.pow_pos (by decide); generalize (2 : Nat) ^ 14000 = z at this ⊢; omega)
          have x0 : (rf h0 j).natAbs < 2 ^ 9000 := pow_le (Nat.lt_of_le_of_lt (lh7.x h0 List.mem_cons_self) X9) (by decide)
          refine ⟨_, rfl, _, rfl, ph7, ys, _, 0, _, rfl, rfl, .of y1, rfl, y2, ?_⟩
          refine ep_i0 (g := fun i j => .int (i - j)) ep_c (ep_i (g := fun i j => .int (i.fdiv j)) (ep_row (ep_var rfl) (ep_var rfl) hr rfl hrj) (ep_rl (e8.rl rl7) (r := h0) (i := 0) rfl (ep_var rfl) ep_c rfl (ep_var rfl) rfl (by omega)) ⟨hp, x0⟩) _ ?_
          dsimp only [tNil]
          exact ⟨q, q0, _, r, h0, rfl, hr, y3, by rw [lenx r hm, len0], by rw [lenx r hm]; omega, fun i _ => mulOk_bits (b := 14000) kb (Nat.lt_of_le_of_lt (Nat.le_trans (lh7.bd h0 (by simp) i) hle.1) psb) (by decide), fun H' p e' h' => hq H' p e' h'⟩
        have hls : RL K H8 pls (lessL j h0 xs) := hls
        have lenl : ∀ r ∈ lessL j h0 xs, j < r.length := fun r hr => by
          obtain ⟨y, hy, rfl⟩ := List.mem_map.mp hr
          rw [addk_len _ (by rw [lenx y hy, len0]), lenx y hy]; exact hj
        have lessc : (lessL j h0 xs).length = xs.length := by unfold lessL; rw [List.length_map]
        have fl1 := List.length_filter_le (fun r : Row => decide (rf r j = 0)) (lessL j h0 xs)
        have fl2 := List.length_filter_le (fun r : Row => decide (rf r j ≠ 0)) (lessL j h0 xs)
        -- left
        refine seq_asg ⟨_, rfl, filt_lc (T := T) (fun r => decide (rf r j = 0)) (fun Q q => ⟨_, rfl, q _ pls (.refl _) hls⟩) (by omega) (fun x => ⟨rfl, rfl⟩) (fun H9 q r Q e hr hm hq => et_eq (ep_row (ep_var rfl) (ep_var rfl) hr rfl (lenl r hm)) ep_c _ (hq H9 (.refl H9))) fun H9 pz e9 hz =>
          cat_rl (T := T) (((e7.trans e8).trans e9).rl hl6) hz (Nat.le_trans (Nat.add_le_add_left fl1 _) (by omega)) fun H10 pl10 e10 hl10 => ?_⟩
        dsimp only
        refine asg_of (ep_slice (T := T) (R' := [h0]) (((e8.trans e9).trans e10).rl rl7) (ep_var rfl) (fun Q q => q) (fun Q q => ⟨1, rfl, q⟩) (fun as hl => ?_) fun H11 pq e11 hq11 => ?_)
        · refine ⟨as.take 1, by rw [List.map_take]; exact cut_take _ 1, fun H' h => h.take 1⟩
        refine filt_lc (T := T) (fun r => decide (rf r j ≠ 0)) (fun Q q => ⟨_, rfl, q _ pls (.refl _) (((e9.trans e10).trans e11).rl hls)⟩) (by omega) (fun x => ⟨rfl, rfl⟩) (fun H12 q r Q e hr hm hq => et_ne (ep_row (ep_var rfl) (ep_var rfl) hr rfl (lenl r hm)) ep_c _ (hq H12 (.refl H12))) fun H12 pz2 e12 hz2 => ?_
        refine cat_rl (T := T) (e12.rl hq11) hz2 (Nat.le_trans (Nat.add_le_add_left fl2 _) (by simp; omega)) fun H13 ph13 e13 hh13 => ?_
        have eall := ((((((e7.trans e8).trans e9).trans e10).trans e11).trans e12).trans e13)
        have hfall : muL ((h0 :: (lessL j h0 xs).filter fun r => decide (rf r j ≠ 0)).map fun r => rf r j) < muL (here.map fun r => rf r j) := by
          rw [← muL_perm (perm.map fun r => rf r j)]; omega
        exact ⟨_, hfall, _, _, pl10, ph13, M', X', _, _, _, ex6.trans eall, ((e11.trans e12).trans e13).rl hl10, hh13, eall.rl hf6, lh8, Nat.le_trans hX' hX, rfl, rfl⟩
    · have hle1 : here.length ≤ 1 := by
        have h1 : ¬ ((1 : Int) < (here.length : Int)) := by simpa using hle1
        omega
      dsimp only
      obtain ⟨as, ha1, ha2⟩ := id hh6
      refine t_nenil (T := T) (xs := as.map V.ref) (ds := here.map rowD) rfl (.of ha1) (fun H' e => dpAll_rows (e.all ha2)) (shaped_rows here) fun H7 e7 => ?_
      have al := ha2.length
      cases here with
      | nil =>
        have : as = [] := List.eq_nil_of_length_eq_zero (by simpa using al)
        subst this
        exact iteF ⟨left, found, pl, pf, _, _, _, _, _, ex6.trans e7, e7.rl hl6, e7.rl hf6, lh.none_, rfl⟩
      | cons h0 xs =>
        have hx1 : xs.length + 1 ≤ 1 := hle1
        have : xs = [] := List.eq_nil_of_length_eq_zero (by omega)
        subst this
        have hne : as ≠ [] := by rintro rfl; simp at al
        have e0 : (!decide (as.map V.ref = [])) = true := by simp [hne]
        rw [e0]
        refine iteT ?_
        have len0 := lh.len h0 (by simp)
        have hp : rf h0 j ≠ 0 := lh.hne h0 (by simp)
        have rl7 := e7.rl hh6
        have Mb : M < 2 ^ 14000 := Nat.lt_of_le_of_lt hle.1 psb
        have tail : ∀ (o : Row) (po : Addr) (s : Int) (H8 : Hp), Ex T H7 H8 → RowAt K H8 po o → o.length = w' → (s = 1 ∨ s = -1) → (∀ i, rf o i = s * rf h0 i) → 0 < rf o j → ∀ u6' u8',
            tAsg (tOp rCat (tLc (iList K (tVar 3)) (gName 8) tYes (tCall (spAdded T K) [] C8.E0 (tCons (tVar 8) (tCons (tVar 7) (tCons (tOp (rI0 fun i j => .int (i - j)) (tC (.int 0)) (tOp (rI DivOk fun i j => .int (i.fdiv j)) (tOp (rRow K) (tVar 8) (tVar 4)) (tOp (rRow K) (tVar 7) (tVar 4)))) tNil)))) [8]) (tLst (tCons (tVar 7) tNil))) (gName 3)
              { nx := fun σ H' => ∃ (left found : List Row) (pl pf : Addr) (u4 u5 u6 u7 u8 : Option V), Ex T H H' ∧ RL K H' pl left ∧ RL K H' pf found ∧ LS w' (j + 1) R left found ∧ σ = [some (.ref a), some (.int (w' : Int)), some (.ref pl), some (.ref pf), u4, u5, u6, u7, u8], rt := fun _ _ => False, bk := fun _ _ => False, ct := fun _ _ => False }
              [some (.ref a), some (.int (w' : Int)), some (.ref pl), some (.ref pf), some (.int (j : Int)), some (.ref ph), u6', some (.ref po), u8'] H8 := fun o po s H8 e8 ho lo hs hos hpos u6' u8' => by
          have oabs : ∀ i, (rf o i).natAbs = (rf h0 i).natAbs := fun i => by
            rw [hos]
            rcases hs with rfl | rfl
            · simp
            · rw [Int.natAbs_mul]; simp
          have memf : ∀ f ∈ found, f ∈ left ++ [h0] ++ found := fun f hf => by simp [hf]
          have lenf : ∀ f ∈ found, f.length = w' := fun f hf => lh.len f (memf f hf)
          refine asg_of (map_lc (T := T) (fun r => addk r o (0 - (rf r j).fdiv (rf o j))) (R := found) (fun Q q => ⟨_, rfl, q _ pf (.refl _) ((e7.trans e8).rl hf6)⟩) (by omega) (fun x => rfl) (fun H9 q r Q e9 hr hm hq => ?_) fun H9 pg e9 hg => ?_)
          · have hrj : j < r.length := by rw [lenf r hm]; exact hj
            have bq := quot_le (x := rf r j) (p := rf o j) (X := M) (by omega) (lh.bd r (memf r hm) j)
            have bq2 : M / (rf o j).natAbs ≤ M := Nat.div_le_self _ _
            have kb : (0 - (rf r j).fdiv (rf o j)).natAbs < 2 ^ 14001 := by
              have z : (0 - (rf r j).fdiv (rf o j)).natAbs = ((rf r j).fdiv (rf o j)).natAbs := by omega
              rw [z]
              have := Nat.lt_of_le_of_lt (Nat.le_trans bq (Nat.add_le_add_right bq2 1)) (Nat.succ_lt_succ Mb)
              exact Nat.lt_of_lt_of_le this (by rw [Nat.pow_succ]; have : 1 ≤ 2 ^ 14000 := Nat.pow_pos (by decide); generalize (2 : Nat) ^ 14000 = z at this ⊢; omega)
            have x0 : (rf o j).natAbs < 2 ^ 9000 := by
              rw [oabs]; exact pow_le (Nat.lt_of_le_of_lt (lh.x h0 (by simp)) X9) (by decide)
            refine ⟨_, rfl, _, rfl, ?_⟩
            refine ep_i0 (g := fun i j => .int (i - j)) ep_c (ep_i (g := fun i j => .int (i.fdiv j)) (ep_row (ep_var rfl) (ep_var rfl) hr rfl hrj) (ep_row (ep_var rfl) (ep_var rfl) (e9.row ho) rfl (by omega)) ⟨by omega, x0⟩) _ ?_
            dsimp only [tNil]
            exact ⟨q, po, _, r, o, rfl, hr, e9.row ho, by rw [lenf r hm, lo], by rw [lenf r hm]; omega, fun i _ => mulOk_bits (b := 14000) kb (by rw [oabs]; exact Nat.lt_of_le_of_lt (lh.bd h0 (by simp) i) Mb) (by decide), fun H' p e' h' => hq H' p e' h'⟩
          · refine ⟨_, rfl, by show 1 ≤ _; decide, fun p1 hp1 => ?_⟩
            have e10 : Ex T H9 (upd H9 p1 (.lst [V.ref po])) := .new hp1
            refine cat_rl (T := T) (e10.rl hg) (S := [o]) ⟨[po], upd_same, .cons (e10.row (e9.row ho)) .nil⟩ (by simp; omega) fun H11 p11 e11 h11 => ?_
            have eall := (((e7.trans e8).trans e9).trans e10).trans e11
            exact ⟨left, _, pl, p11, _, _, _, _, _, ex6.trans eall, eall.rl hl6, h11, lh.one_ hj hX lo hs hos hpos, rfl⟩
        obtain ⟨ys, q0, y1, y2, y3⟩ := rl7.get (i := 0) (r := h0) rfl
        refine et_i0 (g := fun i j => decide (j < i)) (ep_rl rl7 (r := h0) (i := 0) rfl (ep_var rfl) ep_c rfl (ep_var rfl) rfl (by omega)) ep_c _ ?_
        refine ite2 (fun hgt => ?_) fun hng => ?_
        · have hgt := of_decide_eq_true hgt
          refine ⟨_, rfl, ph, ys, _, 0, _, rfl, rfl, .of y1, rfl, y2, ?_⟩
          exact tail h0 q0 1 H7 (.refl H7) y3 len0 (.inl rfl) (fun i => by omega) hgt _ _
        · have hng : ¬ (0 < rf h0 j) := by simpa using hng
          refine ⟨by show 1 ≤ _; decide, fun pt hpt => ?_⟩
          have ept : Ex T H7 (upd H7 pt (.tup [V.int 0])) := .new hpt
          refine ⟨_, rfl, pt, _, w', _, rfl, rfl, sqT_of upd_same, rfl, by omega, by omega, fun pz Hz hz hsz => ?_⟩
          have ez : Ex T (upd H7 pt (.tup [V.int 0])) Hz := by
            rcases hz with ⟨rfl, _⟩ | ⟨h1, rfl⟩
            · exact .refl _
            · exact .new h1
          have ezz := ept.trans ez
          have zrow : RowAt K Hz pz (List.replicate w' 0) := by
            unfold RowAt
            rw [List.map_replicate]; exact hsz
          refine ⟨_, rfl, ph, ys, _, 0, _, rfl, rfl, ezz.sqL (.of y1), rfl, y2, _, rfl, ?_⟩
          dsimp only [tNil]
          refine ⟨pz, q0, -1, List.replicate w' 0, h0, rfl, zrow, ezz.row y3, by rw [List.length_replicate, len0], by rw [List.length_replicate]; omega, fun i _ => mulOk_bits (a := 1) (b := 14000) (by decide) (Nat.lt_of_le_of_lt (lh.bd h0 (by simp) i) Mb) (by decide), fun H8 po e8 ho => ?_⟩
          have hl0 : (List.replicate w' (0 : Int)).length = h0.length := by rw [List.length_replicate, len0]
          have hrf : ∀ i, rf (addk (List.replicate w' 0) h0 (-1)) i = -1 * rf h0 i := fun i => by
            rw [rf_addk _ hl0, rf_zeros]; simp
          exact tail _ po (-1) H8 (ezz.trans e8) ho (by rw [addk_len _ hl0, List.length_replicate]) (.inr rfl) hrf (by rw [hrf]; omega) _ _
  · rintro σ H2 ⟨left, found, pl, pf, u4, u5, u6, u7, u8, ex, hl, hf, ls, rfl⟩
    exact ⟨_, rfl, k H2 pf found ex hf (ls.formOk hw3)⟩
end
end K94

set_option Elab.async false
set_option linter.all false
set_option maxRecDepth 100000
set_option maxHeartbeats 4000000
namespace K94
open PySem PySem.Spec PyProof.Rows L2
section
variable {P : Program} {w : World} {K : PySem.W.Frag} {mg : Str → Option Value} {base : Heap} {T : TabL}
/-! ### repr -/
def repV : V → Option Str
  | .bl b => some (if b then "True" else "False")
  | .non => some "None"
  | .int i => if i.natAbs.log2 < 1920 then some (toString i) else none
  | _ => none
section
variable {X : Cx}
theorem call_reprV : CallR X (.builtin "repr") (fun xs H Q => ∃ v z, xs = [v] ∧ repV v = some z ∧ Q (.str z) H) := by
  intro pins s σ H xs us Q I r h
  obtain ⟨v, z, rfl, hz, q⟩ := h
  obtain ⟨u, rfl, ru⟩ := vals1 r
  cases v with
  | bl b =>
    cases (show u = Value.bool b from ru)
    cases hz
    exact PySem.P.repr_of_bool ⟨.str _, H, I.tok _, ⟨s.toks, by cases b <;> rfl⟩, q⟩
  | non =>
    cases (show u = Value.none from ru)
    cases hz
    exact PySem.P.repr_of_none ⟨.str _, H, I.tok _, ⟨_, rfl⟩, q⟩
  | int i =>
    obtain ⟨t, rfl⟩ := (show ∃ t, u = Value.int i t from ru)
    have hz : (if i.natAbs.log2 < 1920 then some ((toString i : String) : Str) else none) = some z := hz
    by_cases hl : i.natAbs.log2 < 1920
    · rw [if_pos hl] at hz
      cases hz
      exact PySem.P.repr_of_int hl ⟨.str _, H, I.tok _, ⟨s.toks, rfl⟩, q⟩
    · rw [if_neg hl] at hz
      cases hz
  | str _ => cases hz
  | byt _ => cases hz
  | flt _ => cases hz
  | ref _ => cases hz
  | ty _ => cases hz
end
theorem repV_int {i : Int} (h : i.natAbs < 2 ^ 1920) : ∃ z, repV (.int i) = some z := by
  refine ⟨((toString i : String) : Str), ?_⟩
  show (if i.natAbs.log2 < 1920 then some ((toString i : String) : Str) else none) = _
  rw [if_pos (PySem.Flt.log2_lt_of (by decide) h)]
/-! ### rests, is_in -/
def spLrest (T : TabL) (K : PySem.W.Frag) : Sp := fun vs H Q _ => ∃ (a b : Addr) (w A : Nat) (R F : List Row) (p : Row), vs = [.ref a, .ref b] ∧ RL K H a F ∧ FormOk w R F ∧ w ≤ 3 ∧ RowAt K H b p ∧ p.length = w ∧ (∀ j, (rf p j).natAbs < 2 ^ A) ∧ A ≤ 1000000 ∧ GiveR T K H Q (restF F p)
theorem sc_Lrest : FnScope ["_law_form", "_law_point", "_law_row", "_law_j"] ["_law_form", "_law_point"] (defScope s_Lrest) := ⟨rfl, rfl, rfl, by decide +kernel, rfl, by decide +kernel, by decide +kernel⟩
theorem ok_Lrest (F : Def K mg "_law_rest" s_Lrest) (B : Bi mg) (c_Llead : C8.Cal P w K mg base 1 "_law_lead" (spLead K) []) (c_Ladded : C8.Cal P w K mg base 1 "_law_added" (spAdded T K) []) : C8.Cal P w K mg base 2 "_law_rest" (spLrest T K) [] := by
  refine F.cal sc_Lrest (fun vs H Q E h => ?_) (fun _ _ _ _ _ _ us hl => match us, hl with | [_, _], _ => rfl) (fun f cdv A outer s H vs Q E hr h => ?_)
  · obtain ⟨a, b, w', A', R, F, p, rfl, _⟩ := h
    rfl
  obtain ⟨a, b, w', A', R, F, p, rfl, ⟨as, hl, hrows⟩, fo, hw, hb, hpl, hpb, hA, k⟩ := h
  refine ⟨_,
  (pss_cons (ps_for PassesOwn.never rfl (pi_lK K rfl (pv 0)) (pg_name (i := 2) sc_Lrest.nd rfl (by first | exact Or.inl rfl | exact Or.inr rfl))
    (pss_cons (ps_set (i := 3) sc_Lrest.nd rfl (by first | exact Or.inl rfl | exact Or.inr rfl) (C8.pe_c c_Llead hr (by decide) rfl (pa_cons (pv 2) pa_nil)))
    (pss_one (ps_set (i := 1) sc_Lrest.nd rfl (by first | exact Or.inl rfl | exact Or.inr rfl) (C8.pe_c c_Ladded hr (by decide) rfl (pa_cons (pv 1) (pa_cons (pv 2) (pa_cons (pe_op op_sub pe_int (pe_op op_fdivB (pe_ix (ix_row K) (pv 1) (pv 3) (fun _ _ => rfl)) (pe_ix (ix_row K) (pv 2) (pv 3) (fun _ _ => rfl)))) pa_nil))))))))
  (pss_one (ps_ret (pv 1)))), ?_⟩
  have lr := hrows.length
  refine ⟨_, rfl, a, rfl, ⟨_, .of hl⟩, for_it walk_list (fun i σ H' => ∃ q u v, Ex T H H' ∧ RowAt K H' q (restF (F.take i) p) ∧ (restF (F.take i) p).length = w' ∧ (∀ j, (rf (restF (F.take i) p) j).natAbs < 2 ^ (A' + 30001 * i)) ∧ σ = [some (.ref a), some (.ref q), u, v])
    ⟨b, _, _, .refl H, hb, hpl, hpb, rfl⟩ (fun i σ H' _ ⟨_, _, _, e, _⟩ => .of (e.lst hl)) ?_ ?_⟩
  · rintro i x σ H2 H3 hi ⟨q, u, v, ex, hq, hlen, hbits, rfl⟩ ⟨rfl, hx⟩
    obtain ⟨fa, hfa, rfl⟩ := ref_get hx
    obtain ⟨f, hf, hfr⟩ := (ex.all hrows).get hfa
    have hfm := List.mem_of_getElem? hf
    have fl := fo.ok.len f hfm
    have hld := (fo.form.ech.pos f hfm).1
    have hpos := fo.pos f hfm
    have hi3 : i < F.length := (List.getElem?_eq_some_iff.mp hf).1
    have flen := fo.len
    refine ⟨_, rfl, fa, f, rfl, hfr, by omega, ?_⟩
    refine ⟨_, rfl, _, rfl, ep_i0 (g := fun i j => .int (i - j)) ep_c (ep_i (g := fun i j => .int (i.fdiv j)) (ep_row (ep_var rfl) (ep_var rfl) hq rfl (by omega)) (ep_row (ep_var rfl) (ep_var rfl) hfr rfl (by omega)) ⟨by show lv f ≠ 0; omega, pow_le (lv_lt hld hw hpos.1 hpos.2) (by decide)⟩) _ ?_⟩
    dsimp only [tNil]
    have hcb := cnt_bits (f := f) hbits fun _ => hpos.1
    unfold cntN at hcb
    rw [if_pos (by omega)] at hcb
    have kb : (0 - (rf (restF (F.take i) p) (leadN f)).fdiv (lv f)).natAbs < 2 ^ (A' + 30001 * i + 1) := by
      have z : (0 - (rf (restF (F.take i) p) (leadN f)).fdiv (lv f)).natAbs = ((rf (restF (F.take i) p) (leadN f)).fdiv (lv f)).natAbs := by omega
      rw [z]
      exact Nat.lt_of_le_of_lt hcb (Nat.pow_lt_pow_right (by decide) (by omega))
    refine ⟨q, fa, _, _, f, rfl, hq, hfr, by omega, by omega, fun j _ => mulOk_bits kb (fo.ok.bd f hfm j) (by omega), fun H4 q4 e4 h4 => ?_⟩
    have st : restStep (restF (F.take i) p) f = addk (restF (F.take i) p) f (0 - (rf (restF (F.take i) p) (leadN f)).fdiv (lv f)) := by
      unfold restStep; rw [if_pos (by omega)]
    have hlf : (restF (F.take i) p).length = f.length := by omega
    refine ⟨q4, _, _, ex.trans e4, ?_, ?_, ?_, rfl⟩
    · rw [restF_take hf, st]; exact h4
    · rw [restF_take hf, restStep_len hlf]; exact hlen
    · rw [restF_take hf, show A' + 30001 * (i + 1) = A' + 30001 * i + 30001 by omega]
      exact rest_bits hlf hbits (fun _ => hpos.1) (fo.ok.bd f hfm)
  · rintro σ H2 ⟨q, u, v, ex, hq, hlen, hbits, rfl⟩
    rw [List.length_map, lr, List.take_length] at hq
    exact ⟨_, rfl, k _ _ ex hq⟩
def spLisin (T : TabL) (K : PySem.W.Frag) : Sp := fun vs H Q _ => ∃ (a b : Addr) (m w A : Nat) (R : List Row) (p : Row), vs = [.ref a, .ref b] ∧ TabAt K H a w R ∧ Small m w R ∧ LamX.Tabs T H ∧ RowAt K H b p ∧ p.length = w ∧ (∀ j, (rf p j).natAbs < 2 ^ A) ∧ A ≤ 1000000 ∧
  ∀ H' c, Ex T H H' → (c = true ↔ Lat R (rf p)) → Q (.bl c) H'
theorem sc_Lis_in : FnScope ["_law_table", "_law_point"] ["_law_table", "_law_point"] (defScope s_Lis_in) := ⟨rfl, rfl, rfl, by decide +kernel, rfl, by decide +kernel, by decide +kernel⟩
theorem ok_Lis_in (F : Def K mg "_law_is_in" s_Lis_in) (B : Bi mg) (c_Llead : C8.Cal P w K mg base 1 "_law_lead" (spLead K) []) (c_Lrest : C8.Cal P w K mg base 2 "_law_rest" (spLrest T K) []) (c_Lsteps : C8.Cal P w K mg base 3 "_law_steps" (spLsteps T K) []) : C8.Cal P w K mg base 4 "_law_is_in" (spLisin T K) [] := by
  refine F.cal sc_Lis_in (fun vs H Q E h => ?_) (fun _ _ _ _ _ _ us hl => match us, hl with | [_, _], _ => rfl) (fun f cdv A outer s H vs Q E hr h => ?_)
  · obtain ⟨a, b, m, w', A', R, p, rfl, _⟩ := h
    rfl
  obtain ⟨a, b, m, w', A', R, p, rfl, ⟨c, hta, rs, hrs, hrows⟩, sm, hT, hb, hpl, hpb, hA, k⟩ := h
  refine ⟨_,
  (pss_one (ps_ret (pe_cmpR op_eq (C8.pe_c c_Llead hr (by decide) rfl (pa_cons (C8.pe_c c_Lrest hr (by decide) rfl (pa_cons (C8.pe_c c_Lsteps hr (by decide) rfl (pa_cons (pe_callTy (call_lstK K) (by rfl) B.list (by decide +kernel) (pa_cons (pe_ix (ix_t K) (pv 0) pe_int (fun _ _ => rfl)) pa_nil)) (pa_cons (pe_ix (ix_t K) (pv 0) pe_int (fun _ _ => rfl)) pa_nil))) (pa_cons (pv 1) pa_nil))) pa_nil)) (pe_ix (ix_t K) (pv 0) pe_int (fun _ _ => rfl)) (nomark _)))), ?_⟩
  have hw := sm.hw
  refine ⟨_, rfl, a, _, _, 1, _, rfl, rfl, hta, rfl, rfl, c, _, rfl, .inr hrs, fun l hl => ?_⟩
  have e1 : Ex T H (upd H l (.lst (rs.map V.ref))) := .new hl
  refine ⟨_, rfl, a, _, _, 0, _, rfl, rfl, e1.sqT hta, rfl, rfl, ?_⟩
  dsimp only [tNil]
  refine ⟨l, m, w', R, rfl, ⟨rs, upd_same, e1.all hrows⟩, sm, e1.tabs hT, fun H2 q F e2 h2 fo => ?_⟩
  refine ⟨_, rfl, q, b, w', A', R, F, p, rfl, h2, fo, hw, e2.row (e1.row hb), hpl, hpb, hA, fun H3 u e3 h3 => ?_⟩
  obtain ⟨r1, r2⟩ := fo.rest hpl
  refine ⟨u, _, rfl, h3, by omega, ?_⟩
  have e123 := (e1.trans e2).trans e3
  refine ⟨_, rfl, a, _, _, 0, _, rfl, rfl, e123.sqT hta, rfl, rfl, rfl, ?_⟩
  refine k _ _ e123 ?_
  rw [← r1.nought]
  rw [veq]
  constructor
  · intro h
    have h := of_decide_eq_true h
    exact leadN_all (by omega)
  · intro h
    have := leadN_full h
    exact decide_eq_true (by omega)
/-! ### the least number that takes a point in -/
def spLorder (T : TabL) (K : PySem.W.Frag) : Sp := fun vs H Q _ => ∃ (a b : Addr) (m w most : Nat) (R : List Row) (p : Row), vs = [.ref a, .ref b, .int (most : Int)] ∧ TabAt K H a w R ∧ Small m w R ∧ 1 ≤ w ∧ LamX.Tabs T H ∧ RowAt K H b p ∧ p.length = w ∧ (∀ j, (rf p j).natAbs < 2 ^ 64) ∧ most ≤ 1000 ∧
  ∀ H' v, Ex T H H' → ((v = .non ∧ ∀ n : Nat, 1 ≤ n → n ≤ most → ¬ Lat R (fun j => (n : Int) * rf p j)) ∨ ∃ n : Nat, v = .int (n : Int) ∧ 1 ≤ n ∧ n ≤ most ∧ Lat R (fun j => (n : Int) * rf p j) ∧ ∀ n' : Nat, 1 ≤ n' → n' < n → ¬ Lat R (fun j => (n' : Int) * rf p j)) → Q v H'
/-- a multiple of a row -/
theorem zero_row {H Hz : Hp} {pt pz : Addr} {n : Nat} (hz : Hz = upd H pt (.tup [V.int 0]) ∧ pz = pt ∨ upd H pt (.tup [V.int 0]) pz = none ∧ Hz = upd (upd H pt (.tup [V.int 0])) pz (.tup (List.replicate n (V.int 0)))) (hpt : H pt = none) (hs : SqT K Hz pz (List.replicate n (V.int 0))) : Ex T H Hz ∧ RowAt K Hz pz (List.replicate n 0) := by
  refine ⟨?_, by unfold RowAt; rw [List.map_replicate]; exact hs⟩
  have e1 : Ex T H (upd H pt (.tup [V.int 0])) := .new hpt
  rcases hz with ⟨rfl, _⟩ | ⟨h1, rfl⟩
  · exact e1
  · exact e1.trans (.new h1)
theorem rf_times {n : Nat} {p : Row} (k : Int) (h : p.length = n) : (∀ j, rf (addk (List.replicate n 0) p k) j = k * rf p j) ∧ (addk (List.replicate n 0) p k).length = n := by
  have hl : (List.replicate n (0 : Int)).length = p.length := by rw [List.length_replicate, h]
  exact ⟨fun j => by rw [rf_addk _ hl, rf_zeros]; simp, by rw [addk_len _ hl, List.length_replicate]⟩
theorem bits_times {p : Row} {k : Int} {j : Nat} {q : Row} {A B : Nat} (hq : rf q j = k * rf p j) (hp : (rf p j).natAbs < 2 ^ A) (hk : k.natAbs < 2 ^ B) : (rf q j).natAbs < 2 ^ (B + A) := by
  rw [hq]; exact wide_lt hk hp
theorem sc_Lorder : FnScope ["_law_table", "_law_point", "_law_most", "_law_n"] ["_law_table", "_law_point", "_law_most"] (defScope s_Lorder) := ⟨rfl, rfl, rfl, by decide +kernel, rfl, by decide +kernel, by decide +kernel⟩
theorem ok_Lorder (F : Def K mg "_law_order" s_Lorder) (B : Bi mg) (c_Lis_in : C8.Cal P w K mg base 4 "_law_is_in" (spLisin T K) []) (c_Ladded : C8.Cal P w K mg base 1 "_law_added" (spAdded T K) []) : C8.Cal P w K mg base 5 "_law_order" (spLorder T K) [] := by
  refine F.cal sc_Lorder (fun vs H Q E h => ?_) (fun _ _ _ _ _ _ us hl => match us, hl with | [_, _, _], _ => rfl) (fun f cdv A outer s H vs Q E hr h => ?_)
  · obtain ⟨a, b, m, w', most, R, p, rfl, _⟩ := h
    rfl
  obtain ⟨a, b, m, w', most, R, p, rfl, hat, sm, hw1, hT, hb, hpl, hpb, hmost, k⟩ := h
  obtain ⟨c, hta, _⟩ := id hat
  refine ⟨_,
  (pss_cons (ps_for PassesOwn.never rfl (pi_rgN2 rfl B.range (pa_cons pe_int (pa_cons (pe_op op_add (pv 2) pe_int) pa_nil))) (pg_name (i := 3) sc_Lorder.nd rfl (by first | exact Or.inl rfl | exact Or.inr rfl))
    (pss_one (ps_if (pt_val (C8.pe_c c_Lis_in hr (by decide) rfl (pa_cons (pv 0) (pa_cons (C8.pe_c c_Ladded hr (by decide) rfl (pa_cons (pe_op (op_rep1 K) (pe_tup (pa_cons pe_int pa_nil)) (pe_ix (ix_t K) (pv 0) pe_int (fun _ _ => rfl))) (pa_cons (pv 1) (pa_cons (pv 3) pa_nil)))) pa_nil))))
      (pss_one (ps_ret (pv 3)))
      pss_nil)))
  (pss_one (ps_ret pe_non))), ?_⟩
  have hw3 := sm.hw
  refine ⟨_, rfl, _, _, rfl, rfl, _, _, 1, most + 1, rfl, rfl, by simp, by omega, by omega, for_it walk_N (fun i σ H' => Ex T H H' ∧ (∀ n : Nat, 1 ≤ n → n < 1 + i → ¬ Lat R (fun j => (n : Int) * rf p j)) ∧ ∃ u, σ = [some (.ref a), some (.ref b), some (.int (most : Int)), u])
    ⟨.refl H, fun n h1 h2 => by omega, _, rfl⟩ (fun _ _ _ _ _ => trivial) ?_ ?_⟩
  · rintro i x σ H2 H3 hi ⟨ex, hno, u, rfl⟩ ⟨rfl, rfl⟩
    have hn : 1 + i ≤ most := by omega
    refine ⟨_, rfl, by show 1 ≤ _; decide, fun pt hpt => ?_⟩
    refine ⟨_, rfl, a, _, _, 0, _, rfl, rfl, Ex.sqT (T := T) (.new hpt) (ex.sqT hta), rfl, rfl, pt, _, w', _, rfl, rfl, sqT_of upd_same, rfl, hw1, by omega, fun pz Hz hz hs => ?_⟩
    obtain ⟨ez, zrow⟩ := zero_row (T := T) hz hpt hs
    refine ⟨_, rfl, _, rfl, ?_⟩
    dsimp only [tNil]
    have kb : (((1 + i : Nat) : Int)).natAbs < 2 ^ 10 := by omega
    obtain ⟨ht1, ht2⟩ := rf_times ((1 + i : Nat) : Int) hpl
    refine ⟨pz, b, ((1 + i : Nat) : Int), _, p, rfl, zrow, (ex.trans ez).row hb, by rw [List.length_replicate, hpl], by rw [List.length_replicate]; omega, fun j _ => mulOk_bits kb (hpb j) (by decide), fun H4 q e4 h4 => ?_⟩
    have e04 := (ex.trans ez).trans e4
    refine ⟨a, q, m, w', 74, R, _, rfl, e04.tab hat, sm, e04.tabs hT, h4, ht2, fun j => bits_times (ht1 j) (hpb j) kb, by decide, fun H5 cc e5 hcc => ⟨cc, rfl, ?_⟩⟩
    have eq : Lat R (rf (addk (List.replicate w' 0) p ((1 + i : Nat) : Int))) ↔ Lat R (fun j => ((1 + i : Nat) : Int) * rf p j) := by
      have : rf (addk (List.replicate w' 0) p ((1 + i : Nat) : Int)) = fun j => ((1 + i : Nat) : Int) * rf p j := funext ht1
      rw [this]
    cases cc with
    | true =>
      refine iteT ⟨_, rfl, k H5 _ (e04.trans e5) (.inr ⟨1 + i, rfl, by omega, hn, eq.mp (hcc.mp rfl), fun n' h1 h2 => hno n' h1 h2⟩)⟩
    | false =>
      refine iteF ⟨e04.trans e5, fun n h1 h2 => ?_, _, rfl⟩
      by_cases z : n = 1 + i
      · subst z
        exact fun hL => absurd (hcc.mpr (eq.mpr hL)) (by decide)
      · exact hno n h1 (by omega)
  · rintro σ H2 ⟨ex, hno, u, rfl⟩
    exact k H2 .non ex (.inl ⟨rfl, fun n h1 h2 => hno n h1 (by omega)⟩)
end
end K94

set_option Elab.async false
set_option linter.all false
set_option maxRecDepth 100000
set_option maxHeartbeats 4000000
namespace K94
open PySem PySem.Spec PyProof.Rows L2
section
variable {P : Program} {w : World} {K : PySem.W.Frag} {mg : Str → Option Value} {base : Heap} {T : TabL}
/-! ### the law's index -/
theorem FormOk.ix_bits {w : Nat} {R R2 F G : List Row} (hF : FormOk w R F) (hG : FormOk w R2 G) (hw : w ≤ 3) : (ixF F G).natAbs < 2 ^ 1920 := by
  unfold ixF
  split
  · exact Nat.pow_pos (by decide)
  · have h1 := hF.bits hw F.length
    have h2 := hG.bits hw G.length
    rw [List.take_length] at h1 h2
    have h3 := quot_le (x := pp F) (p := pp G) (X := (pp F).natAbs) (by omega) (Nat.le_refl _)
    have h4 : (pp F).natAbs / (pp G).natAbs ≤ (pp F).natAbs := Nat.div_le_self _ _
    have h5 : (2 : Nat) ^ 1747 < 2 ^ 1920 := Nat.pow_lt_pow_right (by decide) (by decide)
    have h6 := h1.2
    generalize (2 : Nat) ^ 1747 = x at h5 h6
    generalize (2 : Nat) ^ 1920 = y at h5 ⊢
    omega
theorem pp_take {F : List Row} {f : Row} {i : Nat} (h : F[i]? = some f) : pp (F.take (i + 1)) = pp (F.take i) * lv f := by
  have h1 := pp_foldl (F.take (i + 1)) 1
  have h2 := pp_foldl (F.take i) 1
  rw [Int.one_mul] at h1 h2
  rw [← h1, ← h2, List.take_succ, h, List.foldl_append]; rfl
def spLindex (T : TabL) (K : PySem.W.Frag) : Sp := fun vs H Q _ => ∃ (a b : Addr) (w : Nat) (R R2 F G : List Row), vs = [.ref a, .ref b] ∧ RL K H a F ∧ RL K H b G ∧ FormOk w R F ∧ FormOk w R2 G ∧ w ≤ 3 ∧ ∀ H', Ex T H H' → Q (.int (ixF F G)) H'
theorem sc_Lindex : FnScope ["_law_form", "_law_other", "_law_found", "_law_k"] ["_law_form", "_law_other"] (defScope s_Lindex) := ⟨rfl, rfl, rfl, by decide +kernel, rfl, by decide +kernel, by decide +kernel⟩
theorem ok_Lindex (F : Def K mg "_law_index" s_Lindex) (B : Bi mg) (c_Llead : C8.Cal P w K mg base 1 "_law_lead" (spLead K) []) : C8.Cal P w K mg base 2 "_law_index" (spLindex T K) [] := by
  refine F.cal sc_Lindex (fun vs H Q E h => ?_) (fun _ _ _ _ _ _ us hl => match us, hl with | [_, _], _ => rfl) (fun f cdv A outer s H vs Q E hr h => ?_)
  · obtain ⟨a, b, w', R, R2, F, G, rfl, _⟩ := h
    rfl
  obtain ⟨a, b, w', R, R2, F, G, rfl, ha, hb, fo, go, hw, k⟩ := h
  refine ⟨_,
  (pss_cons (ps_if (pt_cmpR op_ne (pe_callB (call_lenN K) (by rfl) B.len PySem.boot_len (pa_cons (pv 0) pa_nil)) (pe_callB (call_lenN K) (by rfl) B.len PySem.boot_len (pa_cons (pv 1) pa_nil)) (nomark _))
    (pss_one (ps_ret pe_int))
    pss_nil)
  (pss_cons (ps_set (i := 2) sc_Lindex.nd rfl (by first | exact Or.inl rfl | exact Or.inr rfl) (pe_lst (pa_cons pe_int (pa_cons pe_int pa_nil))))
  (pss_cons (ps_for PassesOwn.never rfl (pi_rgN rfl B.range (pa_cons (pe_callB (call_lenN K) (by rfl) B.len PySem.boot_len (pa_cons (pv 0) pa_nil)) pa_nil)) (pg_name (i := 3) sc_Lindex.nd rfl (by first | exact Or.inl rfl | exact Or.inr rfl))
    (pss_cons (ps_asg (pe_op op_mulB (pe_ix (ix_lrow K) (pv 2) pe_int (fun _ _ => rfl)) (pe_ix (ix_row K) (pe_ix (ix_l K) (pv 0) (pv 3) (fun _ _ => rfl)) (C8.pe_c c_Llead hr (by decide) rfl (pa_cons (pe_ix (ix_l K) (pv 0) (pv 3) (fun _ _ => rfl)) pa_nil)) (fun _ _ => rfl))) (pg_sub (pv 2) pe_int set_list))
    (pss_one (ps_asg (pe_op op_mulB (pe_ix (ix_lrow K) (pv 2) pe_int (fun _ _ => rfl)) (pe_ix (ix_row K) (pe_ix (ix_l K) (pv 1) (pv 3) (fun _ _ => rfl)) (C8.pe_c c_Llead hr (by decide) rfl (pa_cons (pe_ix (ix_l K) (pv 1) (pv 3) (fun _ _ => rfl)) pa_nil)) (fun _ _ => rfl))) (pg_sub (pv 2) pe_int set_list)))))
  (pss_one (ps_ret (pe_op op_fdivB (pe_ix (ix_lrow K) (pv 2) pe_int (fun _ _ => rfl)) (pe_ix (ix_lrow K) (pv 2) pe_int (fun _ _ => rfl)))))))), ?_⟩
  have hF := fo.len
  refine ep_lenR ha (ep_var rfl) _ (ep_lenR hb (ep_var rfl) _ ⟨rfl, _, rfl, ?_⟩)
  rw [vne]
  refine ite2 (fun hne => ?_) fun heq => ?_
  · have hne : F.length ≠ G.length := by
      have : ((F.length : Int) ≠ (G.length : Int)) := by simpa using hne
      omega
    have := k H (.refl H)
    unfold ixF at this
    rw [if_pos hne] at this
    exact this
  have heq : F.length = G.length := by
    have : ((F.length : Int) = (G.length : Int)) := by simpa using heq
    omega
  refine ⟨by show 2 ≤ _; decide, fun p hp => ?_⟩
  have e0 : Ex T H (upd H p (.lst [V.int 1, V.int 1])) := .new hp
  refine ep_lenR (e0.rl ha) (ep_var rfl) _ ⟨_, _, rfl, rfl, by omega, ?_⟩
  refine for_it walk_N0 (fun i σ H' => Ex T H H' ∧ H' p = some (.lst ([pp (F.take i), pp (G.take i)].map V.int)) ∧ ∃ u, σ = [some (.ref a), some (.ref b), some (.ref p), u]) ⟨e0, upd_same, _, rfl⟩ (fun _ _ _ _ _ => trivial) ?_ ?_
  · rintro i x σ H2 H3 hi ⟨ex, hpl, u, rfl⟩ ⟨rfl, rfl⟩
    obtain ⟨f, hf⟩ : ∃ f, F[i]? = some f := ⟨_, List.getElem?_eq_getElem hi⟩
    obtain ⟨g, hg⟩ : ∃ g, G[i]? = some g := ⟨_, List.getElem?_eq_getElem (show i < G.length by omega)⟩
    have hfm := List.mem_of_getElem? hf
    have hgm := List.mem_of_getElem? hg
    have fl := fo.ok.len f hfm
    have gl := go.ok.len g hgm
    have fld := (fo.form.ech.pos f hfm).1
    have gld := (go.form.ech.pos g hgm).1
    have fp := fo.pos f hfm
    have gp := go.pos g hgm
    obtain ⟨xs, q, x1, x2, x3⟩ := (ex.rl ha).get hf
    obtain ⟨ys, t, y1, y2, y3⟩ := (ex.rl hb).get hg
    refine ep_lrow (i := 0) (ep_var rfl) ep_c (.of hpl) rfl (by show 0 < 2; decide) _ ?_
    refine ⟨_, rfl, _, rfl, a, xs, _, i, _, rfl, rfl, .of x1, rfl, x2, ?_⟩
    refine ⟨_, rfl, _, rfl, a, xs, _, i, _, rfl, rfl, .of x1, rfl, x2, ?_⟩
    dsimp only [tNil]
    refine ⟨q, f, rfl, x3, by omega, q, f, _, leadN f, rfl, rfl, x3, rfl, by omega, _, _, rfl, rfl, mulOk_bits (a := 1747) (b := 1639) (fo.bits hw i).2 (lv_lt fld hw fp.1 fp.2) (by decide), ?_⟩
    refine ⟨_, rfl, p, _, _, 0, rfl, rfl, hpl, ixN_nat (by show 0 < 2; decide), ?_⟩
    have ex2 : Ex T H (upd H3 p (.lst ([pp (F.take i) * lv f, pp (G.take i)].map V.int))) := ex.mut hp hpl (plain_lst _)
    refine ep_lrow (i := 1) (r := [pp (F.take i) * lv f, pp (G.take i)]) (ep_var rfl) ep_c (.of upd_same) rfl (by show 1 < 2; decide) _ ?_
    obtain ⟨ys2, t2, z1, z2, z3⟩ := (ex2.rl hb).get hg
    refine ⟨_, rfl, _, rfl, b, ys2, _, i, _, rfl, rfl, .of z1, rfl, z2, ?_⟩
    refine ⟨_, rfl, _, rfl, b, ys2, _, i, _, rfl, rfl, .of z1, rfl, z2, ?_⟩
    dsimp only [tNil]
    refine ⟨t2, g, rfl, z3, by omega, t2, g, _, leadN g, rfl, rfl, z3, rfl, by omega, _, _, rfl, rfl, mulOk_bits (a := 1747) (b := 1639) (go.bits hw i).2 (lv_lt gld hw gp.1 gp.2) (by decide), ?_⟩
    refine ⟨_, rfl, p, _, _, 1, rfl, rfl, upd_same, ixN_nat (by show 1 < 2; decide), ?_⟩
    rw [upd_upd]
    refine ⟨ex.mut hp hpl (plain_lst _), ?_, _, rfl⟩
    rw [pp_take hf, pp_take hg]
    exact upd_same
  · rintro σ H2 ⟨ex, hpl, u, rfl⟩
    rw [List.take_length, heq, List.take_length] at hpl
    have g2 := go.bits hw G.length
    rw [List.take_length] at g2
    refine ep_i (g := fun i j => .int (i.fdiv j)) (ep_lrow (i := 0) (r := [pp F, pp G]) (ep_var rfl) ep_c (.of hpl) rfl (by show 0 < 2; decide)) (ep_lrow (i := 1) (r := [pp F, pp G]) (ep_var rfl) ep_c (.of hpl) rfl (by show 1 < 2; decide)) ⟨by show pp G ≠ 0; omega, pow_le g2.2 (by decide)⟩ _ ?_
    have := k H2 ex
    unfold ixF at this
    rw [if_neg (by simpa using heq)] at this
    exact this
/-! ### the law's look at two tables -/
theorem inV_bools : ∀ bs : List Bool, inV (.bl false) (bs.map V.bl) = !bs.all id
  | [] => rfl
  | b :: bs => by
    have := inV_bools bs
    unfold inV at this ⊢
    rw [List.map_cons, List.any_cons, this, List.all_cons]
    cases b <;> simp [eqV]
theorem flat_bools : ∀ bs : List Bool, (bs.map V.bl).all flatV = true
  | [] => rfl
  | b :: bs => by rw [List.map_cons, List.all_cons, flat_bools bs]; rfl
/-- a truth's value -/
noncomputable def cb (p : Prop) : Bool := @decide p (Classical.propDecidable p)
theorem cb_iff {p : Prop} : cb p = true ↔ p := @decide_eq_true_iff p (Classical.propDecidable p)
theorem cb_of {b : Bool} {p : Prop} (h : b = true ↔ p) : b = cb p := by
  cases b with
  | true => exact (cb_iff.mpr (h.mp rfl)).symm
  | false =>
    cases e : cb p with
    | false => rfl
    | true => exact absurd (h.mpr (cb_iff.mp e)) (by decide)
def spLinside (T : TabL) (K : PySem.W.Frag) : Sp := fun vs H Q _ => ∃ (a b : Addr) (m1 m2 w : Nat) (R1 R2 : List Row), vs = [.ref a, .ref b] ∧ TabAt K H a w R1 ∧ TabAt K H b w R2 ∧ Small m1 w R1 ∧ Small m2 w R2 ∧ LamX.Tabs T H ∧ ∀ H', Ex T H H' → Q (.bl true) H'
theorem sc_Linside_right : FnScope ["_law_one", "_law_other", "_law_due", "_law_index_here", "_law_row"] ["_law_one", "_law_other"] (defScope s_Linside_right) := ⟨rfl, rfl, rfl, by decide +kernel, rfl, by decide +kernel, by decide +kernel⟩
theorem ok_Linside_right (F : Def K mg "_law_inside_right" s_Linside_right) (B : Bi mg) (c_Lis_in : C8.Cal P w K mg base 4 "_law_is_in" (spLisin T K) []) (c_Lindex : C8.Cal P w K mg base 2 "_law_index" (spLindex T K) []) (c_Lsteps : C8.Cal P w K mg base 3 "_law_steps" (spLsteps T K) []) (c_inside : C8.Cal P w K mg base 10 "inside" (spInside T K) []) (c_index_of : C8.Cal P w K mg base 11 "index_of" (spIndex T K) []) : C8.Cal P w K mg base 12 "_law_inside_right" (spLinside T K) [] := by
  refine F.cal sc_Linside_right (fun vs H Q E h => ?_) (fun _ _ _ _ _ _ us hl => match us, hl with | [_, _], _ => rfl) (fun f cdv A outer s H vs Q E hr h => ?_)
  · obtain ⟨a, b, m1, m2, w', R1, R2, rfl, _⟩ := h
    rfl
  obtain ⟨a, b, m1, m2, w', R1, R2, rfl, hta, htb, sm1, sm2, hT, k⟩ := h
  obtain ⟨ra, hta2, rs, hrs, hrows⟩ := id hta
  refine ⟨_,
  (pss_cons (ps_set (i := 2) sc_Linside_right.nd rfl (by first | exact Or.inl rfl | exact Or.inr rfl) (pe_cmpR op_notIn_seq pe_bl (pe_lc (own := [("_law_row", 4)]) (by rfl) sc_Linside_right.nd (pi_tK K rfl (pe_ix (ix_t K) (pv 0) pe_int (fun _ _ => rfl))) (blkOk_by (own := [("_law_row", 4)]) (N := ["_law_one", "_law_other", "_law_due", "_law_index_here", "_law_row"]) (sc := defScope s_Linside_right) (by decide +kernel)) (fun _ _ _ _ _ => (pg_name (i := 4) sc_Linside_right.nd rfl (by first | exact Or.inl rfl | exact Or.inr rfl))) (fun _ _ _ _ _ => pts_nil) (fun _ _ _ _ _ => (C8.pe_c c_Lis_in hr (by decide) rfl (pa_cons (pv 1) (pa_cons (pv 4) pa_nil))))) rfl))
  (pss_cons (ps_set (i := 3) sc_Linside_right.nd rfl (by first | exact Or.inl rfl | exact Or.inr rfl) pe_non)
  (Evl.pss_cut (ps_if (pt_val (pv 2))
    (pss_one (ps_set (i := 3) sc_Linside_right.nd rfl (by first | exact Or.inl rfl | exact Or.inr rfl) (C8.pe_c c_Lindex hr (by decide) rfl (pa_cons (C8.pe_c c_Lsteps hr (by decide) rfl (pa_cons (pe_callTy (call_lstK K) (by rfl) B.list (by decide +kernel) (pa_cons (pe_ix (ix_t K) (pv 0) pe_int (fun _ _ => rfl)) pa_nil)) (pa_cons (pe_ix (ix_t K) (pv 0) pe_int (fun _ _ => rfl)) pa_nil))) (pa_cons (C8.pe_c c_Lsteps hr (by decide) rfl (pa_cons (pe_callTy (call_lstK K) (by rfl) B.list (by decide +kernel) (pa_cons (pe_ix (ix_t K) (pv 1) pe_int (fun _ _ => rfl)) pa_nil)) (pa_cons (pe_ix (ix_t K) (pv 1) pe_int (fun _ _ => rfl)) pa_nil))) pa_nil)))))
    pss_nil)
  (pss_one (ps_ret (pe_and (pe_cmpR op_eq (pe_callB call_reprV (by rfl) B.repr (by decide +kernel) (pa_cons (C8.pe_c c_inside hr (by decide) rfl (pa_cons (pv 0) (pa_cons (pv 1) pa_nil))) pa_nil)) (pe_callB call_reprV (by rfl) B.repr (by decide +kernel) (pa_cons (pv 2) pa_nil)) (nomark _)) (pe_one (pe_cmpR op_eq (pe_callB call_reprV (by rfl) B.repr (by decide +kernel) (pa_cons (C8.pe_c c_index_of hr (by decide) rfl (pa_cons (pv 0) (pa_cons (pv 1) pa_nil))) pa_nil)) (pe_callB call_reprV (by rfl) B.repr (by decide +kernel) (pa_cons (pv 3) pa_nil)) (nomark _))))))))), ?_⟩
  have hm1 := sm1.hm
  have lr : rs.length = R1.length := hrows.length
  have lR : R1.length = m1 := sm1.tab.len
  -- due
  refine ⟨_, rfl, a, _, _, 1, _, rfl, rfl, hta2, rfl, rfl, ra, rfl, ⟨_, hrs⟩, fun D hD => ?_⟩
  refine lc_go (T := T) walk_tup hD (by rw [List.length_map]; omega) (fun i acc _ => acc = ((List.range i).map fun i => cb (Lat R2 (rf (R1.getD i [])))).map V.bl) rfl (fun _ e => e.sqT hrs) ?_ fun acc H1 hD1 e1 _ hacc => ?_
  · rintro i x acc H2 H3 hi hacc _ e hp ⟨rfl, hx⟩ K1 K0 h1 _
    obtain ⟨q, rfl, hq, hi'⟩ := rows_at (e.all hrows) hx
    refine ⟨rfl, iteT (B := K0 H3) ⟨_, rfl, _, rfl, b, q, m2, w', 6, R2, _, rfl, e.tab htb, sm2, e.tabs hT, hq, getD_len sm1.tab (by omega), fun j => sm1.row j, by decide, fun H4 c e4 hc => h1 _ _ e4 ?_⟩⟩
    subst hp
    rw [List.range_succ, List.map_append, List.map_append, cb_of hc]; rfl
  subst hacc
  refine ⟨D, _, rfl, .inl (.of hD1), rfl, flat_bools _, ?_⟩
  rw [if_pos rfl, inV_bools, Bool.not_not]
  have hdue : (((List.range (rs.map V.ref).length).map fun i => cb (Lat R2 (rf (R1.getD i [])))).all id) = cb (Sub R1 R2) := by
    refine cb_of ?_
    rw [List.all_eq_true]
    constructor
    · intro hall r hr
      obtain ⟨i, hi, rfl⟩ := mem_getD sm1.tab hr
      exact cb_iff.mp (hall _ (List.mem_map.mpr ⟨i, List.mem_range.mpr (by rw [List.length_map]; omega), rfl⟩))
    · intro hs c hc
      obtain ⟨i, hi, rfl⟩ := List.mem_map.mp hc
      have hi : i < m1 := by
        have := List.mem_range.mp hi
        rw [List.length_map] at this; omega
      exact cb_iff.mpr (hs _ (getD_mem sm1.tab hi))
  rw [hdue]
  -- the index
  refine ⟨fun σ H2 => ∃ v u4, Ex T H H2 ∧ (¬ Sub R1 R2 → v = .non) ∧ (Sub R1 R2 → ∃ F G, FormOk w' R1 F ∧ FormOk w' R2 G ∧ v = .int (ixF F G)) ∧ σ = [some (.ref a), some (.ref b), some (.bl (cb (Sub R1 R2))), some v, u4], ?_, ?_⟩
  · refine ⟨_, rfl, _, rfl, ite2 (fun hc => ?_) fun hc => ?_⟩
    · have hs := cb_iff.mp hc
      obtain ⟨rb, htb2, rs2, hrs2, hrows2⟩ := id htb
      refine ⟨_, rfl, a, _, _, 1, _, rfl, rfl, e1.sqT hta2, rfl, rfl, ra, _, rfl, .inr (e1.sqT hrs), fun l hl => ?_⟩
      have e2 : Ex T H1 (upd H1 l (.lst (rs.map V.ref))) := .new hl
      have e02 := e1.trans e2
      refine ⟨_, rfl, a, _, _, 0, _, rfl, rfl, e02.sqT hta2, rfl, rfl, ?_⟩
      dsimp only [tNil]
      refine ⟨l, m1, w', R1, rfl, ⟨rs, upd_same, e02.all hrows⟩, sm1, e02.tabs hT, fun H3 q F e3 h3 fo => ?_⟩
      have e03 := e02.trans e3
      refine ⟨_, rfl, b, _, _, 1, _, rfl, rfl, e03.sqT htb2, rfl, rfl, rb, _, rfl, .inr (e03.sqT hrs2), fun l2 hl2 => ?_⟩
      have e4 : Ex T H3 (upd H3 l2 (.lst (rs2.map V.ref))) := .new hl2
      have e04 := e03.trans e4
      refine ⟨_, rfl, b, _, _, 0, _, rfl, rfl, e04.sqT htb2, rfl, rfl, ?_⟩
      dsimp only [tNil]
      refine ⟨l2, m2, w', R2, rfl, ⟨rs2, upd_same, e04.all hrows2⟩, sm2, e04.tabs hT, fun H5 q2 G e5 h5 go => ?_⟩
      refine ⟨q, q2, w', R1, R2, F, G, rfl, (e4.trans e5).rl h3, h5, fo, go, sm1.hw, fun H6 e6 => ?_⟩
      exact ⟨_, _, (e04.trans e5).trans e6, fun h => absurd hs h, fun _ => ⟨F, G, fo, go, rfl⟩, rfl⟩
    · exact ⟨.non, _, e1, fun _ => rfl, fun hs => absurd (cb_iff.mpr hs) hc, rfl⟩
  · rintro σ H2 ⟨v, u4, e2, hno, hyes, rfl⟩
    refine ⟨_, rfl, _, rfl, a, b, m1, m2, w', R1, R2, rfl, e2.tab hta, e2.tab htb, sm1, sm2, e2.tabs hT, fun H3 c e3 hc => ?_⟩
    have hcc := cb_of hc
    subst hcc
    refine ⟨_, _, rfl, rfl, _, rfl, _, _, rfl, rfl, rfl, _, rfl, ?_⟩
    rw [decide_eq_true rfl]
    refine iteT ?_
    have e23 := e2.trans e3
    refine ⟨_, rfl, _, rfl, a, b, m1, m2, w', R1, R2, rfl, e23.tab hta, e23.tab htb, sm1, sm2, e23.tabs hT, fun H4 v2 e4 hno2 hyes2 => ?_⟩
    have same : v2 = v ∧ ∃ z, repV v = some z := by
      by_cases hs : Sub R1 R2
      · obtain ⟨F, G, fo, go, rfl⟩ := hyes hs
        obtain ⟨F2, G2, f2, g2, rfl⟩ := hyes2 hs
        exact ⟨by rw [ixF_uniq f2.form fo.form g2.form go.form], repV_int (fo.ix_bits go sm1.hw)⟩
      · rw [hno hs, hno2 hs]
        exact ⟨rfl, _, rfl⟩
    obtain ⟨rfl, z, hz⟩ := same
    refine ⟨_, z, rfl, hz, _, rfl, _, z, rfl, hz, rfl, ?_⟩
    rw [decide_eq_true rfl]
    exact k H4 (e23.trans e4)
end
end K94

set_option Elab.async false
set_option linter.all false
set_option maxRecDepth 100000
set_option maxHeartbeats 4000000
namespace K94
open PySem PySem.Spec PyProof.Rows L2
section
variable {P : Program} {w : World} {K : PySem.W.Frag} {mg : Str → Option Value} {base : Heap} {T : TabL}
theorem room_in {k : Nat} {A : Around} (h : Room k A) : A.units + 65 < cLine := by have := h.un; omega
theorem RL.app {H : Hp} {p q : Addr} {G : List Row} {r : Row} {as : List Addr} (h1 : H p = some (.lst (as.map V.ref))) (h2 : All2 (RowAt K H) as G) (hr : RowAt K H q r) : RL K (upd H p (.lst (as.map V.ref ++ [.ref q]))) p (G ++ [r]) :=
  ⟨as ++ [q], by rw [List.map_append]; exact upd_same, (rows_upd h2 h1).snoc (row_upd hr h1)⟩
/-- a table of full rank, few classes -/
structure Few (m w : Nat) (R F : List Row) : Prop where
  sm : Small m w R
  w1 : 1 ≤ w
  fo : FormOk w R F
  full : F.length = w
  few : pp F ≤ 40
theorem Few.row_bits {m w : Nat} {R F : List Row} (h : Few m w R F) {q : Row} (hq : q.length = w) (hr : Red R (rf q)) (j : Nat) : (rf q j).natAbs < 2 ^ 1639 := by
  by_cases hj : j < w
  · obtain ⟨f, hf, hfl⟩ := lead_at h.fo.form.ech h.full hj
    have hfm := List.mem_of_getElem? hf
    have hp := h.fo.pos f hfm
    have hld := (h.fo.form.ech.pos f hfm).1
    have hlat : Lat R (rf f) := h.fo.form.same.1 f hfm
    have := hr (rf f) hlat j (fun i hi => leadN_before f i (by omega)) (by have := hp.1; unfold lv at this; rw [hfl] at this; exact this)
    have h1 := lv_lt hld h.sm.hw hp.1 hp.2
    unfold lv at h1
    rw [hfl] at h1
    generalize (2 : Nat) ^ 1639 = z at h1 ⊢
    omega
  · rw [rf_out (by omega)]
    exact Nat.pow_pos (by decide)
theorem Few.le {m w : Nat} {R F : List Row} (h : Few m w R F) {G : List Row} (hn : G.Nodup) (hg : ∀ q ∈ G, q.length = w ∧ Red R (rf q)) : G.length ≤ 40 := by
  have h1 := nodup_le hn fun q hq => (redBox_mem h.fo.form h.full).mpr (hg q hq)
  have h2 := redBox_length h.fo.form.ech
  have h3 := h.few
  omega
def spLgone (T : TabL) (K : PySem.W.Frag) : Sp := fun vs H Q _ => ∃ (a : Addr) (m w : Nat) (R F : List Row), vs = [.ref a] ∧ TabAt K H a w R ∧ Few m w R F ∧ LamX.Tabs T H ∧
  ∀ H' p G, Ex T H H' → RL K H' p G → G.Nodup → (∀ q, q ∈ G ↔ q.length = w ∧ Red R (rf q)) → Q (.ref p) H'
theorem sc_Lgone : FnScope ["_law_table", "_law_wide", "_law_found", "_law_at", "_law_k", "_law_point", "_law_here", "_law_j"] ["_law_table"] (defScope s_Lgone) := ⟨rfl, rfl, rfl, by decide +kernel, rfl, by decide +kernel, by decide +kernel⟩
theorem ok_Lgone (F : Def K mg "_law_gone" s_Lgone) (B : Bi mg) (c_rest_of : C8.Cal P w K mg base 7 "rest_of" (spRestOf T K) []) : C8.Cal P w K mg base 8 "_law_gone" (spLgone T K) [] := by
  refine F.cal sc_Lgone (fun vs H Q E h => ?_) (fun _ _ _ _ _ _ us hl => match us, hl with | [_], _ => rfl) (fun f cdv A outer s H vs Q E hr h => ?_)
  · obtain ⟨a, m, w', R, F, rfl, _⟩ := h
    rfl
  obtain ⟨a, m, w', R, F, rfl, hat, few, hT, k⟩ := h
  obtain ⟨tb, hta, _⟩ := id hat
  refine ⟨_,
  (pss_cons (ps_set (i := 1) sc_Lgone.nd rfl (by first | exact Or.inl rfl | exact Or.inr rfl) (pe_ix (ix_t K) (pv 0) pe_int (fun _ _ => rfl)))
  (pss_cons (ps_set (i := 2) sc_Lgone.nd rfl (by first | exact Or.inl rfl | exact Or.inr rfl) (pe_lst (pa_cons (C8.pe_c c_rest_of hr (by decide) rfl (pa_cons (pv 0) (pa_cons (pe_op (op_rep1 K) (pe_tup (pa_cons pe_int pa_nil)) (pv 1)) pa_nil))) pa_nil)))
  (pss_cons (ps_set (i := 3) sc_Lgone.nd rfl (by first | exact Or.inl rfl | exact Or.inr rfl) pe_int)
  (pss_cons (ps_while PassesOwn.never (PW.pt (pw_and (pt_cmpR op_lt (pv 3) (pe_callB (call_lenN K) (by rfl) B.len PySem.boot_len (pa_cons (pv 2) pa_nil)) (nomark _)) (pw_and1 (pt_cmpR op_lt (pe_callB (call_lenN K) (by rfl) B.len PySem.boot_len (pa_cons (pv 2) pa_nil)) pe_int (nomark _)))))
    (pss_cons (ps_for PassesOwn.never rfl (pi_rgN rfl B.range (pa_cons (pv 1) pa_nil)) (pg_name (i := 4) sc_Lgone.nd rfl (by first | exact Or.inl rfl | exact Or.inr rfl))
      (pss_cons (ps_set (i := 5) sc_Lgone.nd rfl (by first | exact Or.inl rfl | exact Or.inr rfl) (pe_callTy (call_tupK K) (by rfl) B.tuple (by decide +kernel) (pa_cons (pe_lc (own := [("_law_j", 7)]) (by rfl) sc_Lgone.nd (pi_rgN rfl B.range (pa_cons (pv 1) pa_nil)) (blkOk_by (own := [("_law_j", 7)]) (N := ["_law_table", "_law_wide", "_law_found", "_law_at", "_law_k", "_law_point", "_law_here", "_law_j"]) (sc := defScope s_Lgone) (by decide +kernel)) (fun _ _ _ _ _ => (pg_name (i := 7) sc_Lgone.nd rfl (by first | exact Or.inl rfl | exact Or.inr rfl))) (fun _ _ _ _ _ => pts_nil) (fun _ _ _ _ _ => (pe_op op_add (pe_ix (ix_row K) (pe_ix (ix_l K) (pv 2) (pv 3) (fun _ _ => rfl)) (pv 7) (fun _ _ => rfl)) (pe_callTy call_int1 (by rfl) B.int (by decide +kernel) (pa_cons (pe_cmpR op_eq (pv 7) (pv 4) (nomark _)) pa_nil))))) pa_nil)))
      (pss_cons (ps_set (i := 6) sc_Lgone.nd rfl (by first | exact Or.inl rfl | exact Or.inr rfl) (C8.pe_c c_rest_of hr (by decide) rfl (pa_cons (pv 0) (pa_cons (pv 5) pa_nil))))
      (pss_one (ps_if (pt_cmpR (op_notInD (room_in hr)) (pv 6) (pv 2) rfl)
        (pss_one (ps_expr (pe_bm PySem.F.plainAttrs_list PySem.F.slot_list_append PySem.F.type_list_append mt_append (pv 2) (pa_cons (pv 6) pa_nil))))
        pss_nil)))))
    (pss_one (ps_set (i := 3) sc_Lgone.nd rfl (by first | exact Or.inl rfl | exact Or.inr rfl) (pe_op op_add (pv 3) pe_int)))))
  (pss_one (ps_ret (pv 2))))))), ?_⟩
  have hw3 := few.sm.hw
  have hw1 := few.w1
  refine ⟨_, rfl, a, _, _, 0, _, rfl, rfl, hta, rfl, rfl, ?_⟩
  refine ⟨_, rfl, by show 1 ≤ _; decide, fun pt hpt => ⟨_, rfl, pt, _, w', _, rfl, rfl, sqT_of upd_same, rfl, hw1, by omega, fun pz Hz hz hs => ?_⟩⟩
  obtain ⟨ez, zrow⟩ := zero_row (T := T) hz hpt hs
  dsimp only [tNil]
  refine ⟨a, pz, m, w', 1, R, _, rfl, ez.tab hat, few.sm, ez.tabs hT, zrow, List.length_replicate, fun j => by rw [rf_zeros]; show (0 : Int).natAbs < 2 ^ 1; decide, by decide, fun H1 q0 r0 e1 hq0 hr0 hrest => ?_⟩
  have ez1 := ez.trans e1
  refine ⟨by show 1 ≤ _; decide, fun p hp => ?_⟩
  have fP : Fr0 H p := ez1.fr0 hp
  have e2 : Ex T H1 (upd H1 p (.lst [V.ref q0])) := .new hp
  have z0 : IsRest R (fun _ => 0) (rf r0) := by
    have := hrest
    rw [rf_zeros] at this; exact this
  -- the walk
  refine ⟨fun n σ H' => ∃ (G : List Row) (at_ : Nat) (u4 u5 u6 u7 : Option V), n = 41 - at_ ∧ Ex T H H' ∧ RL K H' p G ∧ G.Nodup ∧ (∀ q ∈ G, q.length = w' ∧ Red R (rf q)) ∧ at_ ≤ G.length ∧ (∃ q ∈ G, IsRest R (fun _ => 0) (rf q)) ∧
    (∀ i q, i < at_ → G[i]? = some q → ∀ k, k < w' → ∃ q' ∈ G, IsRest R (fun j => rf q j + eV k j) (rf q')) ∧ σ = [some (.ref a), some (.int (w' : Int)), some (.ref p), some (.int (at_ : Int)), u4, u5, u6, u7],
    ⟨_, [r0], 0, _, _, _, _, rfl, ez1.trans e2, ⟨[q0], upd_same, .cons (e2.row hq0) .nil⟩, by simp, fun q hq => by rw [List.mem_singleton.mp hq]; exact ⟨hr0, hrest.red⟩, by simp, ⟨r0, by simp, z0⟩, fun i q hi => absurd hi (Nat.not_lt_zero _), rfl⟩, ?_⟩
  rintro n σ H2 ⟨G, at_, u4, u5, u6, u7, rfl, ex, hG, hnd, hred, hat_, hz0, hclo, rfl⟩
  have hG40 := few.le hnd hred
  refine et_i0 (g := fun i j => decide (i < j)) (ep_var rfl) (ep_lenR hG (ep_var rfl)) _ ?_
  have done : at_ = G.length → (tRet (tVar 2) { nx := fun x H' => Q V.non H', rt := Q } [some (.ref a), some (.int (w' : Int)), some (.ref p), some (.int (at_ : Int)), u4, u5, u6, u7] H2) := fun e => by
    refine ⟨_, rfl, k H2 p G ex hG hnd fun q => ⟨hred q, fun ⟨h1, h2⟩ => ?_⟩⟩
    refine gone_full few.fo.form few.full (fun q hq => (hred q hq).1) hz0 (fun q hq k hk => ?_) h1 h2
    obtain ⟨i, hi, e2⟩ := List.getElem_of_mem hq
    exact hclo i q (by omega) (by rw [List.getElem?_eq_getElem hi, e2]) k hk
  refine ite2 (fun hlt => ?_) fun hge => ?_
  · have hlt : at_ < G.length := by
      have := of_decide_eq_true hlt
      omega
    refine et_i0 (g := fun i j => decide (i < j)) (ep_lenR hG (ep_var rfl)) ep_c _ ?_
    have h41 : decide ((G.length : Int) < 41) = true := decide_eq_true (by omega)
    rw [h41]
    refine iteT ⟨fun σ' H' => _, fun _ _ h => h, ?_⟩
    obtain ⟨qa, hqa⟩ : ∃ q, G[at_]? = some q := ⟨_, List.getElem?_eq_getElem hlt⟩
    have hqm := List.mem_of_getElem? hqa
    have hql := (hred qa hqm).1
    refine ⟨_, rfl, _, w', rfl, rfl, by omega, for_it walk_N0 (fun i σ H' => ∃ (G2 : List Row) (u5 u6 u4 u7 : Option V), Ex T H H' ∧ RL K H' p G2 ∧ G2.Nodup ∧ (∀ q ∈ G2, q.length = w' ∧ Red R (rf q)) ∧ (∃ L, G2 = G ++ L) ∧
      (∀ k, k < i → ∃ q' ∈ G2, IsRest R (fun j => rf qa j + eV k j) (rf q')) ∧ σ = [some (.ref a), some (.int (w' : Int)), some (.ref p), some (.int (at_ : Int)), u4, u5, u6, u7])
      ⟨G, _, _, _, _, ex, hG, hnd, hred, ⟨[], by simp⟩, fun k hk => absurd hk (Nat.not_lt_zero _), rfl⟩ (fun _ _ _ _ _ => trivial) ?_ ?_⟩
    · rintro i x σ H3 H4 hi ⟨G2, u5, u6, u4, u7, ex3, hG2, hnd2, hred2, ⟨L, rfl⟩, hclo2, rfl⟩ ⟨rfl, rfl⟩
      have hqa2 : (G ++ L)[at_]? = some qa := by rw [List.getElem?_append_left hlt]; exact hqa
      -- the point
      refine ⟨_, rfl, _, w', rfl, rfl, by omega, fun D hD => ?_⟩
      refine lc_fn (T := T) walk_N0 hD (by omega) (fun j => V.int (rf qa j + if j = i then 1 else 0)) (fun _ _ => trivial) ?_ gmono_name ?_
      · rintro j x H5 H6 hj e ⟨rfl, rfl⟩ K1 hk
        refine ⟨rfl, ?_⟩
        refine ep_rl (e.rl hG2) hqa2 (ep_var rfl) (ep_var rfl) rfl (ep_var rfl) rfl (by omega) _ ?_
        refine ⟨_, rfl, _, rfl, rfl, .inr ⟨_, rfl, ?_⟩⟩
        have e2 : (decide (V.int (j : Int) = V.int (i : Int))) = decide (j = i) := by
          rw [veq]; by_cases h : j = i
          · subst h; simp
          · rw [decide_eq_false h, decide_eq_false (by omega)]
        rw [e2]
        have e3 : (if decide (j = i) = true then (1 : Int) else 0) = if j = i then 1 else 0 := by
          by_cases h : j = i
          · rw [decide_eq_true h, if_pos h]; rfl
          · rw [decide_eq_false h, if_neg h]; rfl
        rw [e3]
        exact ⟨_, _, rfl, rfl, hk _ (.refl _)⟩
      intro H5 hD5 e5
      have e6 : (List.range w').map (fun j => V.int (rf qa j + if j = i then 1 else 0)) = (mkRow w' fun j => rf qa j + eV i j).map V.int := by
        unfold mkRow eV; rw [List.map_map]; rfl
      rw [e6] at hD5
      refine ⟨D, _, rfl, .inl ⟨.of hD5, fun pp hpp => ?_⟩⟩
      have prow : RowAt K (upd H5 pp (.tup ((mkRow w' fun j => rf qa j + eV i j).map V.int))) pp (mkRow w' fun j => rf qa j + eV i j) := row_of upd_same
      have e7 : Ex T H4 (upd H5 pp (.tup ((mkRow w' fun j => rf qa j + eV i j).map V.int))) := e5.trans (.new hpp)
      have ex7 := ex3.trans e7
      have hsup : ∀ j, w' ≤ j → rf qa j + eV i j = 0 := fun j hj => by
        rw [rf_out (by omega)]
        unfold eV
        rw [if_neg (by omega)]; rfl
      have hrf : rf (mkRow w' fun j => rf qa j + eV i j) = fun j => rf qa j + eV i j := funext fun j => rf_mkRow_of hsup j
      refine ⟨_, rfl, _, rfl, ?_⟩
      dsimp only [tNil]
      refine ⟨a, pp, m, w', 1640, R, _, rfl, ex7.tab hat, few.sm, ex7.tabs hT, prow, mkRow_len _ _, fun j => ?_, by decide, fun H8 q8 r8 e8 hq8 hr8 hrest8 => ?_⟩
      · rw [hrf]
        have := few.row_bits hql (hred qa hqm).2 j
        have e1 : (2 : Nat) ^ 1640 = 2 ^ 1639 * 2 := Nat.pow_succ _ _
        rw [e1]
        have h1 : 1 < 2 ^ 1639 := Nat.one_lt_two_pow (by decide)
        have he : eV i j = 0 ∨ eV i j = 1 := by unfold eV; split <;> simp
        show (rf qa j + eV i j).natAbs < _
        generalize (2 : Nat) ^ 1639 = z at this h1 ⊢
        omega
      rw [hrf] at hrest8
      have ex8 := ex7.trans e8
      obtain ⟨as, hs8, hrows8⟩ := (e7.trans e8).rl hG2
      refine ⟨_, rfl, _, rfl, rowD r8, (G ++ L).map rowD, dp_row hq8, .lst (.of hs8) (dpAll_rows hrows8), shaped_row r8, shaped_rows _, _, rfl, ?_⟩
      rw [any_rows]
      refine ite2 (fun hin => ?_) fun hin => ?_
      · have hin : r8 ∉ G ++ L := by simpa using hin
        refine ⟨_, rfl, .inl ⟨rfl, _, .inl (.inl hs8)⟩, _, rfl, p, _, _, rfl, rfl, hs8, szm (by rw [List.length_map, hrows8.length]; have := few.le hnd2 hred2; omega), ?_⟩
        refine ⟨(G ++ L) ++ [r8], _, _, _, _, ex8.mut0 fP hs8 (plain_lst _), RL.app hs8 hrows8 hq8, ?_, fun q hq => ?_, ⟨L ++ [r8], by simp⟩, fun k hk => ?_, rfl⟩
        · rw [List.nodup_append]
          exact ⟨hnd2, by simp, fun x hx y hy => by rw [List.mem_singleton.mp hy]; rintro rfl; exact hin hx⟩
        · rcases List.mem_append.mp hq with h | h
          · exact hred2 q h
          · rw [List.mem_singleton.mp h]; exact ⟨hr8, hrest8.red⟩
        · by_cases z : k = i
          · subst z; exact ⟨r8, by simp, hrest8⟩
          · obtain ⟨q', h1, h2⟩ := hclo2 k (by omega)
            exact ⟨q', List.mem_append_left _ h1, h2⟩
      · have hin : r8 ∈ G ++ L := Classical.byContradiction fun h => hin (by rw [decide_eq_false h]; rfl)
        refine ⟨G ++ L, _, _, _, _, ex8, ⟨as, hs8, hrows8⟩, hnd2, hred2, ⟨L, rfl⟩, fun k hk => ?_, rfl⟩
        by_cases z : k = i
        · subst z; exact ⟨r8, hin, hrest8⟩
        · exact hclo2 k (by omega)
    · rintro σ H3 ⟨G2, u5, u6, u4, u7, ex3, hG2, hnd2, hred2, ⟨L, rfl⟩, hclo2, rfl⟩
      refine ⟨_, rfl, _, _, rfl, rfl, ?_⟩
      refine ⟨41 - (at_ + 1), by omega, G ++ L, at_ + 1, _, _, _, _, rfl, ex3, hG2, hnd2, hred2, by rw [List.length_append]; omega, ?_, fun j q hj hq k hk => ?_, rfl⟩
      · obtain ⟨q, h1, h2⟩ := hz0
        exact ⟨q, List.mem_append_left _ h1, h2⟩
      · by_cases z : j = at_
        · subst z
          rw [List.getElem?_append_left hlt, hqa] at hq
          cases hq
          exact hclo2 k hk
        · rw [List.getElem?_append_left (by omega)] at hq
          obtain ⟨q', h1, h2⟩ := hclo j q (by omega) hq k hk
          exact ⟨q', List.mem_append_left _ h1, h2⟩
  · have hge : ¬ (at_ < G.length) := fun h => hge (decide_eq_true (by omega))
    exact iteF (done (by omega))
end
end K94

set_option Elab.async false
set_option linter.all false
set_option maxRecDepth 100000
set_option maxHeartbeats 4000000
namespace K94
open PySem PySem.Spec PyProof.Rows L2
section
variable {P : Program} {w : World} {K : PySem.W.Frag} {mg : Str → Option Value} {base : Heap} {T : TabL}
/-! ### the feed -/
def feedL (c : Addr) (at_ l turn : Int) : List (Key × V) := [(Sum.inr "cells", .ref c), (Sum.inr "at", .int at_), (Sum.inr "left", .int l), (Sum.inr "turn", .int turn)]
theorem feed_cells {c : Addr} {at_ l turn : Int} : valV (feedL c at_ l turn) (Sum.inr "cells") = some (.ref c) := by rfl
theorem feed_at {c : Addr} {at_ l turn : Int} : valV (feedL c at_ l turn) (Sum.inr "at") = some (.int at_) := by rfl
theorem feed_left {c : Addr} {at_ l turn : Int} : valV (feedL c at_ l turn) (Sum.inr "left") = some (.int l) := by rfl
theorem feed_turn {c : Addr} {at_ l turn : Int} : valV (feedL c at_ l turn) (Sum.inr "turn") = some (.int turn) := by rfl
theorem put_at {c : Addr} {at_ l turn x : Int} : putK (feedL c at_ l turn) (Sum.inr "at") (.int x) = feedL c x l turn := by rfl
theorem put_left {c : Addr} {at_ l turn x : Int} : putK (feedL c at_ l turn) (Sum.inr "left") (.int x) = feedL c at_ x turn := by rfl
theorem put_turn {c : Addr} {at_ l turn x : Int} : putK (feedL c at_ l turn) (Sum.inr "turn") (.int x) = feedL c at_ l x := by rfl
structure Feed (H : Hp) (d c : Addr) (cells : List Int) (at_ l turn : Nat) : Prop where
  dict : H d = some (.dK (feedL c at_ l turn))
  list : H c = some (.lst (cells.map V.int))
  len : cells.length ≤ 63
/-- the feed as others see it: drawn from at most n times -/
def FeedAt (H : Hp) (d c : Addr) (n : Nat) : Prop := ∃ cells at_ l turn, Feed H d c cells at_ l turn ∧ turn ≤ n
theorem get_turn {H : Hp} {d c : Addr} {cells : List Int} {at_ l turn : Nat} (h : Feed H d c cells at_ l turn) : DGet H d (.str "turn") (some (.int (turn : Int))) := (feed_turn (c := c) (at_ := at_) (l := l) (turn := turn)) ▸ DGet.k (k := Sum.inr "turn") h.dict
theorem get_left {H : Hp} {d c : Addr} {cells : List Int} {at_ l turn : Nat} (h : Feed H d c cells at_ l turn) : DGet H d (.str "left") (some (.int (l : Int))) := (feed_left (c := c) (at_ := at_) (l := l) (turn := turn)) ▸ DGet.k (k := Sum.inr "left") h.dict
theorem get_at {H : Hp} {d c : Addr} {cells : List Int} {at_ l turn : Nat} (h : Feed H d c cells at_ l turn) : DGet H d (.str "at") (some (.int (at_ : Int))) := (feed_at (c := c) (at_ := at_) (l := l) (turn := turn)) ▸ DGet.k (k := Sum.inr "at") h.dict
theorem get_cells {H : Hp} {d c : Addr} {cells : List Int} {at_ l turn : Nat} (h : Feed H d c cells at_ l turn) : DGet H d (.str "cells") (some (.ref c)) := (feed_cells (c := c) (at_ := at_) (l := l) (turn := turn)) ▸ DGet.k (k := Sum.inr "cells") h.dict
theorem feed_ne {H : Hp} {d c : Addr} {cells : List Int} {at_ l turn : Nat} (h : Feed H d c cells at_ l turn) : c ≠ d := ne_of h.list h.dict (by simp)
theorem set_turn {H : Hp} {d c : Addr} {cells : List Int} {at_ l turn x : Nat} (h : Feed H d c cells at_ l turn) : ∃ H', DPut H d (.str "turn") (.int (x : Int)) H' ∧ Feed H' d c cells at_ l x ∧ H' = upd H d (.dK (feedL c at_ l x)) := by
  refine ⟨_, DPut.k (k := Sum.inr "turn") h.dict (by show 4 < _; decide), ⟨?_, ?_, h.len⟩, ?_⟩
  · rw [put_turn]; exact upd_same
  · rw [upd_ne (feed_ne h)]; exact h.list
  · rw [put_turn]
theorem set_left {H : Hp} {d c : Addr} {cells : List Int} {at_ l turn x : Nat} (h : Feed H d c cells at_ l turn) : ∃ H', DPut H d (.str "left") (.int (x : Int)) H' ∧ Feed H' d c cells at_ x turn ∧ H' = upd H d (.dK (feedL c at_ x turn)) := by
  refine ⟨_, DPut.k (k := Sum.inr "left") h.dict (by show 4 < _; decide), ⟨?_, ?_, h.len⟩, ?_⟩
  · rw [put_left]; exact upd_same
  · rw [upd_ne (feed_ne h)]; exact h.list
  · rw [put_left]
theorem set_at {H : Hp} {d c : Addr} {cells : List Int} {at_ l turn x : Nat} (h : Feed H d c cells at_ l turn) : ∃ H', DPut H d (.str "at") (.int (x : Int)) H' ∧ Feed H' d c cells x l turn ∧ H' = upd H d (.dK (feedL c x l turn)) := by
  refine ⟨_, DPut.k (k := Sum.inr "at") h.dict (by show 4 < _; decide), ⟨?_, ?_, h.len⟩, ?_⟩
  · rw [put_at]; exact upd_same
  · rw [upd_ne (feed_ne h)]; exact h.list
  · rw [put_at]
theorem feed_chg {H H' : Hp} {d c : Addr} {cells : List Int} {at_ l turn : Nat} {kvs : List (Key × V)} (h : Feed H d c cells at_ l turn) (e : H' = upd H d (.dK kvs)) : Chg T d d H H' := by
  subst e; exact .upd (.inl rfl) h.dict (plain_dK _)
theorem Ex.feed {H H' : Hp} {d c : Addr} {cells : List Int} {at_ l turn : Nat} (x : Ex T H H') (h : Feed H d c cells at_ l turn) : Feed H' d c cells at_ l turn :=
  ⟨x.ext _ _ h.dict fun _ => HO.noConfusion, x.lst h.list, h.len⟩
def spLfeed (T : TabL) (K : PySem.W.Frag) : Sp := fun vs H Q _ => ∃ (a : Addr) (ns : List Int), vs = [.ref a] ∧ SqL K H a (ns.map V.int) ∧ ∀ H' d c, Ex T H H' → H d = none → FeedAt H' d c 0 → Q (.ref d) H'
theorem sc_Lfeed : FnScope ["_law_script"] ["_law_script"] (defScope s_Lfeed) := ⟨rfl, rfl, rfl, by decide +kernel, rfl, by decide +kernel, by decide +kernel⟩
theorem ok_Lfeed (F : Def K mg "_law_feed" s_Lfeed) (B : Bi mg)  : C8.Cal P w K mg base 1 "_law_feed" (spLfeed T K) [] := by
  refine F.cal sc_Lfeed (fun vs H Q E h => ?_) (fun _ _ _ _ _ _ us hl => match us, hl with | [_], _ => rfl) (fun f cdv A outer s H vs Q E hr h => ?_)
  · obtain ⟨a, ns, rfl, _⟩ := h
    rfl
  obtain ⟨a, ns, rfl, ha, k⟩ := h
  refine ⟨_,
  (pss_one (ps_ret (pe_disp (pps_cons pe_str (pe_callTy (call_lstK K) (by rfl) B.list (by decide +kernel) (pa_cons (pe_slice (sl_lK K) (pv 0) po_none (po_some pe_int)) pa_nil)) (pps_cons pe_str pe_int (pps_cons pe_str pe_int (pps_cons pe_str pe_int pps_nil)))) (by rfl) (by rfl) (fun z => by cases z) (by decide)))), ?_⟩
  refine fun d hd => ⟨_, rfl, 63, rfl, a, _, rfl, Ex.sqL (T := T) (.new hd) ha, fun p hp => ?_⟩
  have e1 : Ex T H (upd H d (.dK [])) := .new hd
  rw [show ((63 : Int)) = ((63 : Nat) : Int) from rfl, cut_take, ← List.map_take]
  have e2 : Ex T (upd H d (.dK [])) (upd (upd H d (.dK [])) p (.lst ((ns.take 63).map V.int))) := .new hp
  refine ⟨p, _, rfl, .inl (.of upd_same), fun c hc => ?_⟩
  have e3 := e2.trans (.new hc (o := .lst ((ns.take 63).map V.int)))
  have hd3 : upd (upd (upd H d (.dK [])) p (.lst ((ns.take 63).map V.int))) c (.lst ((ns.take 63).map V.int)) d = some (.dK []) := e3.ext d _ upd_same fun _ => HO.noConfusion
  have ncd : c ≠ d := (ne_of_none (e2.ext d _ upd_same fun _ => HO.noConfusion) hc).symm
  refine ⟨hd3, [(Sum.inr "cells", .ref c), (Sum.inr "at", .int 0), (Sum.inr "left", .int 0), (Sum.inr "turn", .int 0)], rfl, by show 4 ≤ 15; decide, ?_⟩
  have hm : mergeK [] [((Sum.inr "cells" : Key), V.ref c), (Sum.inr "at", .int 0), (Sum.inr "left", .int 0), (Sum.inr "turn", .int 0)] = feedL c 0 0 0 := by rfl
  rw [hm]
  refine k _ d c ((e1.trans e3).mut hd hd3 (plain_dK _)) hd ⟨ns.take 63, 0, 0, 0, ⟨upd_same, by rw [upd_ne ncd]; exact upd_same, by rw [List.length_take]; omega⟩, Nat.le_refl _⟩
/-- a number that is drawn -/
def spLdraw (T : TabL) (K : PySem.W.Frag) : Sp := fun vs H Q _ => ∃ (d c : Addr) (many n : Nat), vs = [.ref d, .int (many : Int)] ∧ FeedAt H d c n ∧ n < 1000000 ∧ 1 ≤ many ∧ many ≤ 1000 ∧ ∀ H' (v : Nat), Chg T d d H H' → FeedAt H' d c (n + 1) → v < many → Q (.int (v : Int)) H'
theorem sc_Ldraw : FnScope ["_law_feed_here", "_law_many", "_law_found", "_law_at", "_law_cell", "_law_mixed"] ["_law_feed_here", "_law_many"] (defScope s_Ldraw) := ⟨rfl, rfl, rfl, by decide +kernel, rfl, by decide +kernel, by decide +kernel⟩
theorem ok_Ldraw (F : Def K mg "_law_draw" s_Ldraw) (B : Bi mg)  : C8.Cal P w K mg base 1 "_law_draw" (spLdraw T K) [] := by
  refine F.cal sc_Ldraw (fun vs H Q E h => ?_) (fun _ _ _ _ _ _ us hl => match us, hl with | [_, _], _ => rfl) (fun f cdv A outer s H vs Q E hr h => ?_)
  · obtain ⟨d, c, many, n, rfl, _⟩ := h
    rfl
  obtain ⟨d, c, many, n, rfl, ⟨cells, at_, l, turn, fd, htn⟩, hn, hm1, hm2, k⟩ := h
  refine ⟨_,
  (pss_cons (ps_dput (hu_of hr) (pv 0) pe_str (pe_op op_add (pe_dget (hu_of hr) (pv 0) pe_str (fun _ _ => rfl)) pe_int) rfl)
  (Evl.pss_cut (ps_if (pt_cmpR op_gt (pe_dget (hu_of hr) (pv 0) pe_str (fun _ _ => rfl)) pe_int (nomark _))
    (pss_cons (ps_set (i := 2) sc_Ldraw.nd rfl (by first | exact Or.inl rfl | exact Or.inr rfl) (pe_op op_mod (pe_dget (hu_of hr) (pv 0) pe_str (fun _ _ => rfl)) (pv 1)))
    (pss_cons (ps_dput (hu_of hr) (pv 0) pe_str (pe_op op_fdivB (pe_dget (hu_of hr) (pv 0) pe_str (fun _ _ => rfl)) (pv 1)) rfl)
    (pss_one (ps_ret (pv 2)))))
    pss_nil)
  (pss_cons (ps_set (i := 3) sc_Ldraw.nd rfl (by first | exact Or.inl rfl | exact Or.inr rfl) (pe_dget (hu_of hr) (pv 0) pe_str (fun _ _ => rfl)))
  (pss_cons (ps_dput (hu_of hr) (pv 0) pe_str (pe_op op_add (pv 3) pe_int) rfl)
  (pss_cons (ps_set (i := 4) sc_Ldraw.nd rfl (by first | exact Or.inl rfl | exact Or.inr rfl) (pe_ifExp (pt_cmpR (op_neD (room_eq hr)) (pe_dget (hu_of hr) (pv 0) pe_str (fun _ _ => rfl)) (pe_lst pa_nil) (nomark _)) (pe_ix (ix_lrow K) (pe_dget (hu_of hr) (pv 0) pe_str (fun _ _ => rfl)) (pe_op op_mod (pv 3) (pe_callB (call_lenN K) (by rfl) B.len PySem.boot_len (pa_cons (pe_dget (hu_of hr) (pv 0) pe_str (fun _ _ => rfl)) pa_nil))) (fun _ _ => rfl)) pe_int))
  (Evl.pss_cut (ps_if (PW.pt (pw_and (pt_cmpR op_ge (pv 4) (pe_op op_pow pe_int pe_int) (nomark _)) (pw_and1 (pt_cmpR op_lt (pv 3) (pe_callB (call_lenN K) (by rfl) B.len PySem.boot_len (pa_cons (pe_dget (hu_of hr) (pv 0) pe_str (fun _ _ => rfl)) pa_nil)) (nomark _)))))
    (pss_cons (ps_dput (hu_of hr) (pv 0) pe_str (pe_op op_fdivB (pv 4) (pv 1)) rfl)
    (pss_one (ps_ret (pe_op op_mod (pv 4) (pv 1)))))
    pss_nil)
  (pss_cons (ps_set (i := 5) sc_Ldraw.nd rfl (by first | exact Or.inl rfl | exact Or.inr rfl) (pe_op op_mod (pe_op op_mulB (pe_op op_add (pe_op op_mod (pv 4) pe_int) pe_int) (pe_op op_add (pe_op op_mulB pe_int (pe_dget (hu_of hr) (pv 0) pe_str (fun _ _ => rfl))) pe_int)) pe_int))
  (pss_cons (ps_set (i := 5) sc_Ldraw.nd rfl (by first | exact Or.inl rfl | exact Or.inr rfl) (pe_op op_mod (pe_op op_mulB (pe_op op_mod (pe_op op_mulB (pv 5) (pv 5)) pe_int) (pv 5)) pe_int))
  (pss_cons (ps_set (i := 5) sc_Ldraw.nd rfl (by first | exact Or.inl rfl | exact Or.inr rfl) (pe_op op_mod (pe_op op_add (pv 5) (pe_op op_mulB pe_int (pe_dget (hu_of hr) (pv 0) pe_str (fun _ _ => rfl)))) pe_int))
  (pss_one (ps_ret (pe_op op_mod (pe_op op_fdivB (pe_op op_mod (pe_op op_mulB (pe_op op_mod (pe_op op_mulB (pv 5) (pv 5)) pe_int) pe_int) pe_int) pe_int) (pv 1))))))))))))), ?_⟩
  have mb : ((many : Int)).natAbs < 2 ^ 9000 := pow_le (a := 10) (by omega) (by decide)
  have modn : ∀ x : Int, ∃ v : Nat, x % (many : Int) = (v : Int) ∧ v < many := fun x => by
    have h1 := Int.emod_nonneg x (show (many : Int) ≠ 0 by omega)
    have h2 := Int.emod_lt_of_pos x (show (0 : Int) < many by omega)
    exact ⟨(x % (many : Int)).toNat, by omega, by omega⟩
  obtain ⟨H1, put1, fd1, eq1⟩ := set_turn (x := turn + 1) fd
  have c1 : Chg T d d H H1 := feed_chg fd eq1
  refine ⟨_, rfl, d, _, rfl, get_turn fd, _, _, rfl, rfl, _, rfl, d, H1, rfl, put1, ?_⟩
  refine ⟨fun σ H2 => H2 = H1 ∧ σ = [some (.ref d), some (.int (many : Int)), none, none, none, none], ?_, ?_⟩
  · refine ⟨_, rfl, d, _, rfl, get_left fd1, _, _, rfl, rfl, _, rfl, ite2 (fun hl => ?_) fun hl => ⟨rfl, rfl⟩⟩
    refine ⟨_, rfl, d, _, rfl, get_left fd1, _, rfl, _, _, rfl, rfl, by show (0 : Int) < many; omega, ?_⟩
    obtain ⟨v, hv, hvm⟩ := modn (l : Int)
    have hq : ((l : Int)).fdiv (many : Int) = ((l / many : Nat) : Int) := by
      rw [Int.fdiv_eq_ediv_of_nonneg _ (by omega)]; rfl
    obtain ⟨H2, put2, fd2, eq2⟩ := set_left (x := l / many) fd1
    refine ⟨_, rfl, d, _, rfl, get_left fd1, _, rfl, _, _, rfl, rfl, ⟨by omega, mb⟩, _, rfl, d, H2, rfl, by show DPut H1 d _ (.int ((l : Int).fdiv many)) H2; rw [hq]; exact put2, _, rfl, ?_⟩
    show Q (.int ((l : Int) % many)) H2
    rw [hv]
    exact k H2 v (c1.trans (feed_chg fd1 eq2)) ⟨cells, at_, l / many, turn + 1, fd2, by omega⟩ hvm
  rintro σ H2 ⟨rfl, rfl⟩
  obtain ⟨H3, put3, fd3, eq3⟩ := set_at (x := at_ + 1) fd1
  have c3 : Chg T d d H H3 := c1.trans (feed_chg fd1 eq3)
  refine ⟨_, rfl, d, _, rfl, get_at fd1, _, rfl, _, _, rfl, rfl, _, rfl, d, H3, rfl, put3, ?_⟩
  -- the cell
  dsimp only
  refine seq_asg ?_
  refine (show ∀ Q : VK, (∀ (cell : Int) H4, Ex T H3 H4 → Q (.int cell) H4) → tIf _ _ _ _ H3 Q from fun Q hQ => ?_) _ fun cell H4 e4 => ?_
  · refine ⟨_, rfl, d, _, rfl, get_cells fd3, Nat.zero_le _, fun q hq => ?_⟩
    have eq : Ex T H3 (upd H3 q (.lst [])) := .new hq
    have fdq := eq.feed fd3
    refine ⟨.list (cells.map PyData.int), .list [], .lst (.of fdq.list) (dpAll_ints cells), .lst (.of upd_same) .nil, shaped_ints cells, rfl, _, rfl, ?_⟩
    have e1 : PyData.eqv (.list (cells.map PyData.int)) (.list []) = decide (cells = []) := by
      simp only [PyData.eqv, eqvAll_nil]
      cases cells <;> simp
    rw [e1]
    refine ite2 (fun hne => ?_) fun he => hQ 7 _ eq
    have hne : cells ≠ [] := by simpa using hne
    have hpos : 0 < cells.length := by
      cases cells with
      | nil => exact absurd rfl hne
      | cons x l => simp
    refine ⟨_, rfl, d, _, rfl, get_cells fdq, _, rfl, _, rfl, d, _, rfl, get_cells fdq, c, _, cells.length, rfl, .inl (.of fdq.list), List.length_map .., _, _, rfl, rfl, by show (0 : Int) < _; omega, ?_⟩
    exact ⟨c, cells, _, at_ % cells.length, rfl, rfl, .of fdq.list, rfl, Nat.mod_lt _ hpos, hQ _ _ eq⟩
  have fd4 := e4.feed fd3
  have c4 := c3.trans (.of e4)
  dsimp only [gName]
  obtain ⟨v, hv, hvm⟩ := modn cell
  refine ⟨fun σ H5 => H5 = H4 ∧ σ = [some (.ref d), some (.int (many : Int)), none, some (.int (at_ : Int)), some (.int cell), none], ?_, ?_⟩
  · refine ⟨_, rfl, _, _, rfl, rfl, ⟨by decide, by decide, by decide⟩, _, _, rfl, rfl, _, rfl, ite2 (fun hbig => ?_) fun hs => iteF ⟨rfl, rfl⟩⟩
    refine ⟨_, rfl, _, rfl, d, _, rfl, get_cells fd4, c, _, cells.length, rfl, .inl (.of fd4.list), List.length_map .., _, _, rfl, rfl, _, rfl, ite2 (fun hin => ?_) fun hs => ⟨rfl, rfl⟩⟩
    have hbig : (10 : Int) ^ 18 ≤ cell := of_decide_eq_true hbig
    have h18 : (0 : Int) < 10 ^ 18 := by decide
    have hq : cell.fdiv (many : Int) = ((cell.toNat / many : Nat) : Int) := by
      rw [Int.fdiv_eq_ediv_of_nonneg _ (by omega)]
      have : cell = (cell.toNat : Int) := by omega
      rw [this]; rfl
    obtain ⟨H5, put5, fd5, eq5⟩ := set_left (x := cell.toNat / many) fd4
    refine ⟨_, rfl, _, rfl, _, _, rfl, rfl, ⟨by omega, mb⟩, _, rfl, d, H5, rfl, by show DPut H4 d _ (.int (cell.fdiv many)) H5; rw [hq]; exact put5, ?_⟩
    refine ⟨_, rfl, _, rfl, _, _, rfl, rfl, by show (0 : Int) < many; omega, ?_⟩
    show Q (.int (cell % many)) H5
    rw [hv]
    exact k H5 v (c4.trans (feed_chg fd4 eq5)) ⟨cells, _, _, turn + 1, fd5, by omega⟩ hvm
  rintro σ H5 ⟨rfl, rfl⟩
  have pm : ∀ (x y : Int), 0 < y → 0 ≤ x % y ∧ x % y < y := fun x y h => ⟨Int.emod_nonneg x (by omega), Int.emod_lt_of_pos x h⟩
  have tb : (((turn + 1 : Nat) : Int)).natAbs < 2 ^ 64 := by
    have : (2 : Nat) ^ 64 = 18446744073709551616 := by decide
    omega
  have small : ∀ x : Int, 0 ≤ x → x < 18446744073709551616 → x.natAbs < 2 ^ 64 := fun x h1 h2 => by
    have : (2 : Nat) ^ 64 = 18446744073709551616 := by decide
    omega
  -- the mixing
  have p1 := pm cell 1000003 (by decide)
  refine ep_i (g := fun i j => .int (i % j)) (ep_i (g := fun i j => .int (i * j)) (ep_i0 (g := fun i j => .int (i + j)) (ep_i (g := fun i j => .int (i % j)) (ep_var rfl) ep_c (by decide)) ep_c)
    (ep_i0 (g := fun i j => .int (i + j)) (ep_i (g := fun i j => .int (i * j)) ep_c (fun Q q => ⟨_, rfl, d, _, rfl, get_turn fd4, q⟩) (mulOk_small (by decide) tb)) ep_c) (mulOk_small (small _ (by omega) (by omega)) (small _ (by omega) (by omega)))) ep_c (by decide) _ ?_
  dsimp only [gName]
  have p2 := pm ((cell % 1000003 + 1) * (7919 * ((turn + 1 : Nat) : Int) + 13)) 2147483647 (by decide)
  generalize (cell % 1000003 + 1) * (7919 * ((turn + 1 : Nat) : Int) + 13) % 2147483647 = m1 at p2
  refine ep_i (g := fun i j => .int (i % j)) (ep_i (g := fun i j => .int (i * j)) (ep_i (g := fun i j => .int (i % j)) (ep_i (g := fun i j => .int (i * j)) (ep_var rfl) (ep_var rfl) (mulOk_small (small _ (by omega) (by omega)) (small _ (by omega) (by omega)))) ep_c (by decide)) (ep_var rfl) (mulOk_small (small _ (pm _ _ (by decide)).1 (by have := (pm (m1 * m1) 2147483647 (by decide)).2; omega)) (small _ (by omega) (by omega)))) ep_c (by decide) _ ?_
  dsimp only [gName]
  have p3 := pm (m1 * m1 % 2147483647 * m1) 2147483647 (by decide)
  generalize m1 * m1 % 2147483647 * m1 % 2147483647 = m2 at p3
  refine ep_i (g := fun i j => .int (i % j)) (ep_i0 (g := fun i j => .int (i + j)) (ep_var rfl) (ep_i (g := fun i j => .int (i * j)) ep_c (fun Q q => ⟨_, rfl, d, _, rfl, get_turn fd4, q⟩) (mulOk_small (by decide) tb))) ep_c (by decide) _ ?_
  dsimp only [gName]
  have p4 := pm (m2 + 104729 * ((turn + 1 : Nat) : Int)) 2147483629 (by decide)
  generalize (m2 + 104729 * ((turn + 1 : Nat) : Int)) % 2147483629 = m3 at p4
  have p5 := pm (m3 * m3) 2147483629 (by decide)
  refine ep_i (g := fun i j => .int (i % j)) (ep_i (g := fun i j => .int (i.fdiv j)) (ep_i (g := fun i j => .int (i % j)) (ep_i (g := fun i j => .int (i * j)) (ep_i (g := fun i j => .int (i % j)) (ep_i (g := fun i j => .int (i * j)) (ep_var rfl) (ep_var rfl) (mulOk_small (small _ (by omega) (by omega)) (small _ (by omega) (by omega)))) ep_c (by decide)) ep_c (mulOk_small (small _ (by omega) (by omega)) (by decide))) ep_c (by decide)) ep_c ⟨by decide, pow_le (a := 10) (by decide) (by decide)⟩) (ep_var rfl) (by show (0 : Int) < many; omega) _ ?_
  obtain ⟨v2, hv2, hvm2⟩ := modn ((m3 * m3 % 2147483629 * 69621 % 2147483587).fdiv 64)
  show Q (.int ((m3 * m3 % 2147483629 * 69621 % 2147483587).fdiv 64 % many)) H5
  rw [hv2]
  exact k H5 v2 c4 ⟨cells, _, _, turn + 1, fd4, by omega⟩ hvm2
end
end K94

set_option Elab.async false
set_option linter.all false
set_option maxRecDepth 100000
set_option maxHeartbeats 4000000
namespace K94
open PySem PySem.Spec PyProof.Rows L2
section
variable {P : Program} {w : World} {K : PySem.W.Frag} {mg : Str → Option Value} {base : Heap} {T : TabL}
/-! ### the drawn tables -/
section
variable {d p a b c : Addr} {H H' H0 H1 : Hp} {o u : HO} {n n' w : Nat} {R : List Row} {kvs : List (Key × V)}
theorem chg_mut0 (x : Chg T d d H H') (h : Fr0 H p) (hp : H' p = some u) (q : Plain u) : Chg T d d H (upd H' p o) :=
  ⟨fun b v h1 h2 e n => by
    have nb : b ≠ p := by
      rintro rfl
      obtain ⟨ps, z⟩ := h v e
      exact n ps z
    rw [upd_ne nb]; exact x.ext b v h1 h2 e n, fun t => tabs_new (x.tabs t) fun b v e k => by
    have nb : b ≠ p := by
      rintro rfl
      rw [hp] at e
      cases e
      rcases k with ⟨ps, k⟩ | ⟨c, z, k⟩
      · exact q.1 ps k
      · exact q.2 c z k
    rw [upd_ne nb]; exact e⟩
theorem Chg.fr0 (x : Chg T d d H H') (nd : p ≠ d) (h : H' p = none) : Fr0 H p := fun o e => by
  by_cases q : ∃ ps, o = HO.tbl ps
  · exact q
  · have := x.ext p o nd nd e fun ps z => q ⟨ps, z⟩
    rw [h] at this; cases this
theorem FeedAt.dict (h : FeedAt H d c n) : ∃ kvs, H d = some (.dK kvs) := by
  obtain ⟨cells, at_, l, turn, fd, _⟩ := h
  exact ⟨_, fd.dict⟩
theorem FeedAt.le (h : FeedAt H d c n) (hn : n ≤ n') : FeedAt H d c n' := by
  obtain ⟨cells, at_, l, turn, fd, ht⟩ := h
  exact ⟨cells, at_, l, turn, fd, by omega⟩
theorem Ex.feedAt (x : Ex T H H') (h : FeedAt H d c n) : FeedAt H' d c n := by
  obtain ⟨cells, at_, l, turn, fd, ht⟩ := h
  exact ⟨cells, at_, l, turn, x.feed fd, ht⟩
theorem FeedAt.ne (h : FeedAt H d c n) (hp : H p = none) : p ≠ d := by
  obtain ⟨kvs, e⟩ := h.dict
  rintro rfl
  rw [hp] at e; cases e
theorem feedAt_upd (h : FeedAt H d c n) {xs ys : List V} (hp : H p = some (.lst xs)) (hc : c ≠ p) : FeedAt (upd H p (.lst ys)) d c n := by
  obtain ⟨cells, at_, l, turn, fd, ht⟩ := h
  refine ⟨cells, at_, l, turn, ⟨?_, ?_, fd.len⟩, ht⟩
  · rw [upd_ne (ne_of fd.dict hp (by simp))]; exact fd.dict
  · rw [upd_ne hc]; exact fd.list
theorem FeedAt.ne2 (h : FeedAt H d c n) (hp : H p = none) : c ≠ p := by
  obtain ⟨cells, at_, l, turn, fd, ht⟩ := h
  exact ne_of_none fd.list hp
theorem Chg.lstd (x : Chg T d d H H') (f : FeedAt H d c n) {xs : List V} (h : H a = some (.lst xs)) : H' a = some (.lst xs) := by
  obtain ⟨kvs, e⟩ := f.dict
  exact x.ext a _ (ne_of h e (by simp)) (ne_of h e (by simp)) h fun _ => HO.noConfusion
theorem Chg.sqTd (x : Chg T d d H H') (f : FeedAt H d c n) {xs : List V} (h : SqT K H a xs) : SqT K H' a xs := by
  obtain ⟨kvs, e⟩ := f.dict
  rcases h with (h | ⟨q, h⟩) | h
  · exact .inl (.inl (x.ext a _ (ne_of h e (by simp)) (ne_of h e (by simp)) h fun _ => HO.noConfusion))
  · exact .inl (.inr ⟨q, x.ext a _ (ne_of h e (by simp)) (ne_of h e (by simp)) h fun _ => HO.noConfusion⟩)
  · exact .inr h
theorem Chg.alld (x : Chg T d d H H') (f : FeedAt H d c n) {as : List Addr} (h : All2 (RowAt K H) as R) : All2 (RowAt K H') as R := h.imp fun a r h => x.sqTd f h
theorem Chg.tabd (x : Chg T d d H H') (f : FeedAt H d c n) (h : TabAt K H a w R) : TabAt K H' a w R := by
  obtain ⟨b, h1, as, h2, h3⟩ := h
  exact ⟨b, x.sqTd f h1, as, x.sqTd f h2, x.alld f h3⟩
theorem Chg.rld (x : Chg T d d H H') (f : FeedAt H d c n) (h : RL K H a R) : RL K H' a R := by
  obtain ⟨as, h1, h2⟩ := h
  exact ⟨as, x.lstd f h1, x.alld f h2⟩
theorem map_erase {α β : Type} (f : α → β) : ∀ (l : List α) (k : Nat), (l.eraseIdx k).map f = (l.map f).eraseIdx k
  | [], k => by simp
  | x :: l, 0 => rfl
  | x :: l, k + 1 => by simp [map_erase f l k]
theorem RL.pop {as : List Addr} (h1 : H p = some (.lst (as.map V.ref))) (h2 : All2 (RowAt K H) as R) (k : Nat) : RL K (upd H p (.lst ((as.map V.ref).eraseIdx k))) p (R.eraseIdx k) := by
  refine ⟨as.eraseIdx k, by rw [map_erase]; exact upd_same, rows_upd ?_ h1⟩
  clear h1
  induction h2 generalizing k with
  | nil => exact .nil
  | cons h t ih => 
    cases k with
    | zero => exact t
    | succ k => exact .cons h (ih k)
end
theorem seqIndex_nat {k n : Nat} (h : k < n) : seqIndex? (k : Int) n = some k := by
  unfold seqIndex?
  simp only [if_neg (show ¬ ((k : Int) < 0) by omega)]
  rw [decide_eq_true (show (0 : Int) ≤ (k : Int) by omega), decide_eq_true (show (k : Int) < (n : Int) by omega)]
  rfl
def spLfirst (T : TabL) (K : PySem.W.Frag) : Sp := fun vs H Q _ => ∃ (d c : Addr) (w n : Nat), vs = [.ref d, .int (w : Int)] ∧ FeedAt H d c n ∧ n < 900000 ∧ 1 ≤ w ∧ w ≤ 3 ∧
  ∀ H' a m R, Chg T d d H H' → FeedAt H' d c (n + 5) → TabAt K H' a w R → Tab m w R → Bd 2 R → m ≤ 3 → Q (.ref a) H'
theorem rf_bd {R : List Row} {M : Nat} (h : ∀ r ∈ R, ∀ j, (rf r j).natAbs ≤ M) : Bd M R := fun i j => by
  show (rf (R.getD i []) j).natAbs ≤ M
  by_cases hi : i < R.length
  · have : R.getD i [] ∈ R := List.mem_of_getElem? (i := i) (by simp [hi])
    exact h _ this j
  · have : R.getD i [] = [] := by rw [List.getD_eq_getElem?_getD, List.getElem?_eq_none (by omega)]; rfl
    rw [this, rf_out (by simp)]
    simp
theorem sc_Lfirst : FnScope ["_law_feed_here", "_law_wide", "_law_rows", "_law_k", "_law_number", "_law_j"] ["_law_feed_here", "_law_wide"] (defScope s_Lfirst) := ⟨rfl, rfl, rfl, by decide +kernel, rfl, by decide +kernel, by decide +kernel⟩
theorem ok_Lfirst (F : Def K mg "_law_first" s_Lfirst) (B : Bi mg) (c_Ldraw : C8.Cal P w K mg base 1 "_law_draw" (spLdraw T K) []) : C8.Cal P w K mg base 2 "_law_first" (spLfirst T K) [] := by
  refine F.cal sc_Lfirst (fun vs H Q E h => ?_) (fun _ _ _ _ _ _ us hl => match us, hl with | [_, _], _ => rfl) (fun f cdv A outer s H vs Q E hr h => ?_)
  · obtain ⟨d, c, w', n, rfl, _⟩ := h
    rfl
  obtain ⟨d, c, w', n, rfl, fd, hn, hw1, hw3, k⟩ := h
  refine ⟨_,
  (pss_cons (ps_set (i := 2) sc_Lfirst.nd rfl (by first | exact Or.inl rfl | exact Or.inr rfl) (pe_lst pa_nil))
  (pss_cons (ps_for PassesOwn.never rfl (pi_rgN rfl B.range (pa_cons (pv 1) pa_nil)) (pg_name (i := 3) sc_Lfirst.nd rfl (by first | exact Or.inl rfl | exact Or.inr rfl))
    (pss_cons (ps_set (i := 4) sc_Lfirst.nd rfl (by first | exact Or.inl rfl | exact Or.inr rfl) (pe_op op_add pe_int (pe_callTy call_int1 (by rfl) B.int (by decide +kernel) (pa_cons (pe_cmpR op_eq (C8.pe_c c_Ldraw hr (by decide) rfl (pa_cons (pv 0) (pa_cons pe_int pa_nil))) pe_int (nomark _)) pa_nil))))
    (pss_one (ps_expr (pe_bm PySem.F.plainAttrs_list PySem.F.slot_list_append PySem.F.type_list_append mt_append (pv 2) (pa_cons (pe_callTy (call_tupK K) (by rfl) B.tuple (by decide +kernel) (pa_cons (pe_lc (own := [("_law_j", 5)]) (by rfl) sc_Lfirst.nd (pi_rgN rfl B.range (pa_cons (pv 1) pa_nil)) (blkOk_by (own := [("_law_j", 5)]) (N := ["_law_feed_here", "_law_wide", "_law_rows", "_law_k", "_law_number", "_law_j"]) (sc := defScope s_Lfirst) (by decide +kernel)) (fun _ _ _ _ _ => (pg_name (i := 5) sc_Lfirst.nd rfl (by first | exact Or.inl rfl | exact Or.inr rfl))) (fun _ _ _ _ _ => pts_nil) (fun _ _ _ _ _ => (pe_op op_mulB (pv 4) (pe_callTy call_int1 (by rfl) B.int (by decide +kernel) (pa_cons (pe_cmpR op_eq (pv 5) (pv 3) (nomark _)) pa_nil))))) pa_nil)) pa_nil))))))
  (Evl.pss_cut (ps_if (pt_cmpR op_eq (C8.pe_c c_Ldraw hr (by decide) rfl (pa_cons (pv 0) (pa_cons pe_int pa_nil))) pe_int (nomark _))
    (pss_one (ps_expr (pe_bm PySem.F.plainAttrs_list PySem.F.slot_list_pop PySem.F.type_list_pop mt_popAt (pv 2) (pa_cons (C8.pe_c c_Ldraw hr (by decide) rfl (pa_cons (pv 0) (pa_cons (pv 1) pa_nil))) pa_nil))))
    pss_nil)
  (pss_one (ps_ret (pe_tup (pa_cons (pv 1) (pa_cons (pe_callTy (call_tupK K) (by rfl) B.tuple (by decide +kernel) (pa_cons (pv 2) pa_nil)) pa_nil)))))))), ?_⟩
  refine ⟨by show 0 ≤ _; decide, fun p hp => ?_⟩
  have fP : Fr0 H p := .of hp
  have npd := fd.ne hp
  have ncp := fd.ne2 hp
  have e0 : Ex T H (upd H p (.lst [])) := .new hp
  dsimp only [gName]
  refine ⟨_, rfl, _, w', rfl, rfl, by omega, for_it walk_N0 (fun i σ H' => ∃ (R : List Row) (u3 u4 u5 : Option V), Chg T d d H H' ∧ FeedAt H' d c (n + i) ∧ RL K H' p R ∧ R.length = i ∧ (∀ r ∈ R, r.length = w' ∧ ∀ j, (rf r j).natAbs ≤ 2) ∧ σ = [some (.ref d), some (.int (w' : Int)), some (.ref p), u3, u4, u5])
    ⟨[], _, _, _, .of e0, e0.feedAt fd, ⟨[], upd_same, .nil⟩, rfl, (fun r hr => by cases hr), rfl⟩ (fun _ _ _ _ _ => trivial) ?_ ?_⟩
  · rintro i x σ H2 H3 hi ⟨R, u3, u4, u5, ch, fd2, hR, hl, hrows, rfl⟩ ⟨rfl, rfl⟩
    refine ⟨_, rfl, d, c, 4, _, rfl, fd2, by omega, by omega, by omega, fun H4 v c4 fd4 hv => ?_⟩
    have hR4 := c4.rld fd2 hR
    have ch4 := ch.trans c4
    refine ⟨rfl, .inr ⟨_, rfl, _, _, rfl, rfl, ?_⟩⟩
    obtain ⟨z, hz1, hz2, hz⟩ : ∃ z : Int, 0 ≤ z ∧ z ≤ 2 ∧ 1 + (if (decide (V.int (v : Int) = V.int 0)) = true then (1 : Int) else 0) = z := ⟨_, by split <;> omega, by split <;> omega, rfl⟩
    dsimp only
    rw [hz]
    dsimp only [gName]
    obtain ⟨as, hs4, hrows4⟩ := hR4
    refine ⟨_, rfl, .inl ⟨rfl, _, .inl (.inl hs4)⟩, _, rfl, _, w', rfl, rfl, by omega, fun D hD => ?_⟩
    refine lc_fn (T := T) walk_N0 hD (by omega) (fun j => V.int (z * if j = i then 1 else 0)) (fun _ _ => trivial) ?_ gmono_name ?_
    · rintro j x H5 H6 hj e ⟨rfl, rfl⟩ K1 hk
      refine ⟨rfl, _, rfl, _, rfl, _, rfl, rfl, .inr ⟨_, rfl, ?_⟩⟩
      have e2 : (decide (V.int (j : Int) = V.int (i : Int))) = decide (j = i) := by
        rw [veq]; by_cases h : j = i
        · subst h; simp
        · rw [decide_eq_false h, decide_eq_false (by omega)]
      rw [e2]
      have e3 : (if decide (j = i) = true then (1 : Int) else 0) = if j = i then 1 else 0 := by
        by_cases h : j = i
        · rw [decide_eq_true h, if_pos h]; rfl
        · rw [decide_eq_false h, if_neg h]; rfl
      rw [e3]
      exact ⟨_, _, rfl, rfl, mulOk_small (by omega) (by split <;> omega), hk _ (.refl _)⟩
    intro H5 hD5 e5
    have e6 : (List.range w').map (fun j => V.int (z * if j = i then 1 else 0)) = (mkRow w' fun j => z * if j = i then 1 else 0).map V.int := by
      unfold mkRow; rw [List.map_map]; rfl
    rw [e6] at hD5
    refine ⟨D, _, rfl, .inl ⟨.of hD5, fun pp hpp => ?_⟩⟩
    have e7 : Ex T H4 (upd H5 pp (.tup ((mkRow w' fun j => z * if j = i then 1 else 0).map V.int))) := e5.trans (.new hpp)
    have prow : RowAt K (upd H5 pp (.tup ((mkRow w' fun j => z * if j = i then 1 else 0).map V.int))) pp (mkRow w' fun j => z * if j = i then 1 else 0) := row_of upd_same
    have hs7 := e7.lst hs4
    refine ⟨p, _, _, rfl, rfl, hs7, szm (by rw [List.length_map, hrows4.length]; omega), ?_⟩
    refine ⟨R ++ [mkRow w' fun j => z * if j = i then 1 else 0], _, _, _, chg_mut0 (ch4.trans (.of e7)) fP hs7 (plain_lst _), feedAt_upd (e7.feedAt fd4) hs7 ncp, RL.app hs7 (e7.all hrows4) prow, by rw [List.length_append, hl]; rfl, fun r hr => ?_, rfl⟩
    rcases List.mem_append.mp hr with h | h
    · exact hrows r h
    · rw [List.mem_singleton.mp h]
      refine ⟨mkRow_len _ _, fun j => ?_⟩
      by_cases hj : j < w'
      · rw [rf_mkRow]; split <;> (try split) <;> simp <;> omega
      · rw [rf_out (by rw [mkRow_len]; omega)]; simp
  rintro σ H2 ⟨R, u3, u4, u5, ch, fd2, hR, hl, hrows, rfl⟩
  refine ⟨fun σ H' => ∃ (R : List Row), Chg T d d H H' ∧ FeedAt H' d c (n + 5) ∧ RL K H' p R ∧ R.length ≤ 3 ∧ (∀ r ∈ R, r.length = w' ∧ ∀ j, (rf r j).natAbs ≤ 2) ∧ σ = [some (.ref d), some (.int (w' : Int)), some (.ref p), u3, u4, u5], ?_, ?_⟩
  · refine ⟨_, rfl, d, c, 5, _, rfl, fd2, by omega, by omega, by omega, fun H4 v c4 fd4 hv => ?_⟩
    have hR4 := c4.rld fd2 hR
    have ch4 := ch.trans c4
    refine ⟨rfl, _, rfl, ite2 (fun h5 => ?_) fun h5 => ?_⟩
    · obtain ⟨as0, hs4, _⟩ := id hR4
      refine ⟨_, rfl, .inl ⟨rfl, _, .inl (.inl hs4)⟩, ?_⟩
      refine ⟨_, rfl, _, rfl, d, c, w', _, rfl, fd4, by omega, by omega, by omega, fun H5 v5 c5 fd5 hv5 => ?_⟩
      obtain ⟨as, hs5, hrows5⟩ := c5.rld fd4 hR4
      have ch5 := ch4.trans c5
      have hlt : v5 < as.length := by rw [hrows5.length]; omega
      refine ⟨p, _, _, v5, .ref as[v5], rfl, rfl, hs5, by omega, by omega, by rw [List.length_map]; exact seqIndex_nat hlt, by rw [List.getElem?_map, List.getElem?_eq_getElem hlt]; rfl, ?_⟩
      refine ⟨R.eraseIdx v5, chg_mut0 ch5 fP hs5 (plain_lst _), (feedAt_upd fd5 hs5 ncp).le (by omega), RL.pop hs5 hrows5 v5, ?_, fun r hr => hrows r (List.mem_of_mem_eraseIdx hr), rfl⟩
      have := List.length_eraseIdx_le R v5
      omega
    · refine ⟨R, ch4, fd4.le (by omega), hR4, by omega, hrows, rfl⟩
  rintro σ H3 ⟨R, ch3, fd3, ⟨as, hs3, hrows3⟩, hl3, hrw, rfl⟩
  refine ⟨_, rfl, _, rfl, p, _, rfl, .inl ⟨.of hs3, fun pp hpp => ⟨by show 2 ≤ _; decide, fun pt hpt => ?_⟩⟩⟩
  have e4 : Ex T H3 (upd H3 pp (.tup (as.map V.ref))) := .new hpp
  have e5 := e4.trans (.new hpt (o := .tup [.int (w' : Int), .ref pp]))
  refine k _ pt R.length R (ch3.trans (.of e5)) (e5.feedAt fd3) ⟨pp, sqT_of upd_same, as, (Ex.new hpt).sqT (T := T) (sqT_of upd_same), e5.all hrows3⟩ ⟨rfl, fun r hr => (hrw r hr).1⟩ (rf_bd fun r hr => (hrw r hr).2) hl3
def spLsums (T : TabL) (K : PySem.W.Frag) : Sp := fun vs H Q _ => ∃ (d c a : Addr) (m w n B : Nat) (R : List Row), vs = [.ref d, .ref a] ∧ FeedAt H d c n ∧ n < 900000 ∧ TabAt K H a w R ∧ Tab m w R ∧ m ≤ 3 ∧ w ≤ 3 ∧ 1 ≤ w ∧ Bd B R ∧ B ≤ 10 ∧
  ∀ H' a2 m2 S, Chg T d d H H' → FeedAt H' d c (n + 20) → TabAt K H' a2 w S → Tab m2 w S → Bd (5 * B) S → m2 ≤ m → Sub S R → Q (.ref a2) H'
theorem bd_mem {R : List Row} {B m w : Nat} (t : Tab m w R) (b : Bd B R) {r : Row} (h : r ∈ R) (j : Nat) : (rf r j).natAbs ≤ B := by
  obtain ⟨i, hi, rfl⟩ := List.getElem_of_mem h
  have := b i j
  unfold ent at this
  rw [List.getD_eq_getElem?_getD, List.getElem?_eq_getElem hi] at this
  exact this
theorem sc_Lsums : FnScope ["_law_feed_here", "_law_table", "_law_wide", "_law_rows", "_law_found", "_law_k", "_law_row"] ["_law_feed_here", "_law_table"] (defScope s_Lsums) := ⟨rfl, rfl, rfl, by decide +kernel, rfl, by decide +kernel, by decide +kernel⟩
theorem ok_Lsums (F : Def K mg "_law_sums" s_Lsums) (B : Bi mg) (c_Ldraw : C8.Cal P w K mg base 1 "_law_draw" (spLdraw T K) []) (c_Ladded : C8.Cal P w K mg base 1 "_law_added" (spAdded T K) []) : C8.Cal P w K mg base 2 "_law_sums" (spLsums T K) [] := by
  refine F.cal sc_Lsums (fun vs H Q E h => ?_) (fun _ _ _ _ _ _ us hl => match us, hl with | [_, _], _ => rfl) (fun f cdv A outer s H vs Q E hr h => ?_)
  · obtain ⟨d, c, a, m, w', n, B', R, rfl, _⟩ := h
    rfl
  obtain ⟨d, c, a, m, w', n, B', R, rfl, fd, hn, hat, tab, hm3, hw3, hw1, bd, hB, k⟩ := h
  obtain ⟨b, hta, rs, hrs, hrows⟩ := id hat
  refine ⟨_,
  (pss_cons (ps_asg (pv 1) (pg_tK K rfl (n := 2) (pgs_cons (pg_name (i := 2) sc_Lsums.nd rfl (by first | exact Or.inl rfl | exact Or.inr rfl)) (pgs_cons (pg_name (i := 3) sc_Lsums.nd rfl (by first | exact Or.inl rfl | exact Or.inr rfl)) pgs_nil))))
  (pss_cons (ps_set (i := 4) sc_Lsums.nd rfl (by first | exact Or.inl rfl | exact Or.inr rfl) (pe_lst pa_nil))
  (pss_cons (ps_for PassesOwn.never rfl (pi_rgN rfl B.range (pa_cons (pe_callB (call_lenN K) (by rfl) B.len PySem.boot_len (pa_cons (pv 3) pa_nil)) pa_nil)) (pg_name (i := 5) sc_Lsums.nd rfl (by first | exact Or.inl rfl | exact Or.inr rfl))
    (pss_cons (ps_set (i := 6) sc_Lsums.nd rfl (by first | exact Or.inl rfl | exact Or.inr rfl) (C8.pe_c c_Ladded hr (by decide) rfl (pa_cons (pe_op (op_rep1 K) (pe_tup (pa_cons pe_int pa_nil)) (pv 2)) (pa_cons (pe_ix (ix_t K) (pv 3) (pv 5) (fun _ _ => rfl)) (pa_cons (pe_ix (ix_lrow K) (pe_lst (pa_cons pe_int (pa_cons pe_int (pa_cons pe_int (pa_cons pe_int (pa_cons (pe_un un_neg pe_int) pa_nil)))))) (C8.pe_c c_Ldraw hr (by decide) rfl (pa_cons (pv 0) (pa_cons pe_int pa_nil))) (fun _ _ => rfl)) pa_nil)))))
    (Evl.pss_cut (ps_if (pt_cmpR op_gt (pv 5) pe_int (nomark _))
      (pss_one (ps_set (i := 6) sc_Lsums.nd rfl (by first | exact Or.inl rfl | exact Or.inr rfl) (C8.pe_c c_Ladded hr (by decide) rfl (pa_cons (pv 6) (pa_cons (pe_ix (ix_t K) (pv 3) (C8.pe_c c_Ldraw hr (by decide) rfl (pa_cons (pv 0) (pa_cons (pv 5) pa_nil))) (fun _ _ => rfl)) (pa_cons (pe_op op_sub (C8.pe_c c_Ldraw hr (by decide) rfl (pa_cons (pv 0) (pa_cons pe_int pa_nil))) pe_int) pa_nil))))))
      pss_nil)
    (pss_one (ps_expr (pe_bm PySem.F.plainAttrs_list PySem.F.slot_list_append PySem.F.type_list_append mt_append (pv 4) (pa_cons (pv 6) pa_nil)))))))
  (Evl.pss_cut (ps_if (PW.pt (pw_and (pt_cmpR (op_neD (room_eq hr)) (pv 4) (pe_lst pa_nil) (nomark _)) (pw_and1 (pt_cmpR op_eq (C8.pe_c c_Ldraw hr (by decide) rfl (pa_cons (pv 0) (pa_cons pe_int pa_nil))) pe_int (nomark _)))))
    (pss_one (ps_expr (pe_bm PySem.F.plainAttrs_list PySem.F.slot_list_pop PySem.F.type_list_pop mt_popAt (pv 4) (pa_cons (C8.pe_c c_Ldraw hr (by decide) rfl (pa_cons (pv 0) (pa_cons (pe_callB (call_lenN K) (by rfl) B.len PySem.boot_len (pa_cons (pv 4) pa_nil)) pa_nil))) pa_nil))))
    pss_nil)
  (pss_one (ps_ret (pe_tup (pa_cons (pv 2) (pa_cons (pe_callTy (call_tupK K) (by rfl) B.tuple (by decide +kernel) (pa_cons (pv 4) pa_nil)) pa_nil))))))))), ?_⟩
  have hrl : rs.length = m := by rw [hrows.length, tab.len]
  refine ⟨_, rfl, a, _, rfl, hta, rfl, _, _, rfl, _, _, rfl, rfl, ?_⟩
  dsimp only [gName, gCons, gNil]
  refine ⟨by show 0 ≤ _; decide, fun p hp => ?_⟩
  have fP : Fr0 H p := .of hp
  have ncp := fd.ne2 hp
  have e0 : Ex T H (upd H p (.lst [])) := .new hp
  dsimp only [gName]
  refine ⟨_, rfl, b, _, m, rfl, .inr (e0.sqT hrs), by rw [List.length_map, hrl], _, m, rfl, rfl, by omega, for_it walk_N0 (fun i σ H' => ∃ (S : List Row) (u5 u6 : Option V), Chg T d d H H' ∧ FeedAt H' d c (n + 3 * i) ∧ RL K H' p S ∧ S.length = i ∧ (∀ r ∈ S, r.length = w' ∧ (∀ j, (rf r j).natAbs ≤ 5 * B') ∧ Lat R (rf r)) ∧ σ = [some (.ref d), some (.ref a), some (.int (w' : Int)), some (.ref b), some (.ref p), u5, u6])
    ⟨[], _, _, .of e0, e0.feedAt fd, ⟨[], upd_same, .nil⟩, rfl, (fun r hr => by cases hr), rfl⟩ (fun _ _ _ _ _ => trivial) ?_ ?_⟩
  · rintro i x σ H2 H3 hi ⟨S, u5, u6, ch, fd2, hS, hl, hall, rfl⟩ ⟨rfl, rfl⟩
    refine ⟨by show 1 ≤ _; decide, fun pt hpt => ⟨_, rfl, pt, _, w', _, rfl, rfl, sqT_of upd_same, rfl, hw1, by omega, fun pz Hz hz hs => ?_⟩⟩
    obtain ⟨ez, zrow⟩ := zero_row (T := T) hz hpt hs
    have chz := ch.trans (.of ez)
    have fdz := ez.feedAt fd2
    have hSz := ez.rl hS
    have hrz := chz.sqTd fd hrs
    obtain ⟨ri, hri⟩ : ∃ q, rs[i]? = some q := ⟨_, List.getElem?_eq_getElem (by omega)⟩
    refine ⟨_, rfl, _, rfl, b, _, _, i, _, rfl, rfl, hrz, rfl, by rw [List.getElem?_map, hri]; rfl, ?_⟩
    dsimp only [tNil]
    refine ⟨2, rfl, ?_⟩
    refine ⟨by show 5 ≤ _; decide, fun q hq => ?_⟩
    have e1 : Ex T Hz (upd Hz q (.lst ([1, 2, 3, 1, -2].map V.int))) := .new hq
    have fd1 := e1.feedAt fdz
    have hq1 : upd Hz q (.lst ([1, 2, 3, 1, -2].map V.int)) q = some (.lst ([1, 2, 3, 1, -2].map V.int)) := upd_same
    refine ⟨_, rfl, d, c, 5, _, rfl, fd1, by omega, by omega, by omega, fun H4 v c4 fd4 hv => ?_⟩
    refine ⟨q, [1, 2, 3, 1, -2], _, v, rfl, rfl, .of (c4.lstd fd1 hq1), rfl, by show v < 5; omega, ?_⟩
    have chq := (chz.trans (.of e1)).trans c4
    have S4 := c4.rld fd1 (e1.rl hSz)
    obtain ⟨z, hz1, hz2, hz⟩ : ∃ z : Int, -2 ≤ z ∧ z ≤ 3 ∧ rf [1, 2, 3, 1, -2] v = z := ⟨_, by match v, hv with | 0, _ | 1, _ | 2, _ | 3, _ | 4, _ => decide, by match v, hv with | 0, _ | 1, _ | 2, _ | 3, _ | 4, _ => decide, rfl⟩
    rw [hz]
    dsimp only [tNil]
    have hrows4 := chq.alld fd hrows
    obtain ⟨_, hx1, hri4, hiR⟩ := rows_at hrows4 (i := i) (v := .ref ri) (by rw [List.getElem?_map, hri]; rfl)
    cases hx1
    have hil := getD_len tab (i := i) (by omega)
    have him : R.getD i [] ∈ R := List.mem_of_getElem? (i := i) (by simp [hiR])
    have b5 : ∀ (z : Int) (x : Int), -3 ≤ z → z ≤ 3 → x.natAbs ≤ B' → (z * x).natAbs ≤ 3 * B' := fun z x h1 h2 h3 => by
      rw [Int.natAbs_mul]; exact Nat.mul_le_mul (by omega) h3
    have mo : ∀ (z x : Int), -3 ≤ z → z ≤ 3 → x.natAbs ≤ 10 → IntMulOk z x := fun z x h1 h2 h3 => mulOk_small (by
      have : (2 : Nat) ^ 64 = 18446744073709551616 := by decide
      omega) (by
      have : (2 : Nat) ^ 64 = 18446744073709551616 := by decide
      omega)
    obtain ⟨ht1, ht2⟩ := rf_times (n := w') z hil
    refine ⟨pz, ri, z, _, R.getD i [], rfl, c4.sqTd fd1 (e1.row zrow), hri4, by rw [List.length_replicate, hil], by rw [List.length_replicate]; omega, fun j _ => mo _ _ (by omega) (by omega) (Nat.le_trans (bd i j) hB), fun H5 p5 e5 h5 => ?_⟩
    dsimp only [gName]
    have ch5 := chq.trans (.of e5)
    have fd5 := e5.feedAt fd4
    have S5 := e5.rl S4
    have lt1 : Lat R (rf (addk (List.replicate w' 0) (R.getD i []) z)) := by
      rw [show rf (addk (List.replicate w' 0) (R.getD i []) z) = fun j => z * rf (R.getD i []) j from funext ht1]
      exact (Lat.row him).times z
    refine ⟨fun σ H' => ∃ (p6 : Addr) (r : Row), Chg T d d H H' ∧ FeedAt H' d c (n + 3 * i + 3) ∧ RL K H' p S ∧ RowAt K H' p6 r ∧ r.length = w' ∧ (∀ j, (rf r j).natAbs ≤ 5 * B') ∧ Lat R (rf r) ∧ σ = [some (.ref d), some (.ref a), some (.int (w' : Int)), some (.ref b), some (.ref p), some (.int (i : Int)), some (.ref p6)], ?_, ?_⟩
    · refine et_i0 (g := fun i j => decide (j < i)) (ep_var rfl) ep_c _ ?_
      refine ite2 (fun hpos => ?_) fun hpos => ⟨p5, _, ch5, fd5.le (by omega), S5, h5, ht2, fun j => by
        rw [ht1]; have := b5 z _ (by omega) (by omega) (bd i j); exact Nat.le_trans this (by omega), lt1, rfl⟩
      have hpos : 0 < i := by
        have := of_decide_eq_true hpos
        omega
      refine ⟨_, rfl, _, rfl, _, rfl, _, rfl, d, c, i, _, rfl, fd5, by omega, by omega, by omega, fun H6 v6 c6 fd6 hv6 => ?_⟩
      have ch6 := ch5.trans c6
      obtain ⟨rv, hrv⟩ : ∃ q, rs[v6]? = some q := ⟨_, List.getElem?_eq_getElem (by omega)⟩
      refine ⟨b, _, _, v6, _, rfl, rfl, ch6.sqTd fd hrs, rfl, by rw [List.getElem?_map, hrv]; rfl, ?_⟩
      refine ⟨_, rfl, d, c, 5, _, rfl, fd6, by omega, by omega, by omega, fun H7 v7 c7 fd7 hv7 => ?_⟩
      refine ⟨_, _, rfl, rfl, ?_⟩
      have ch7 := ch6.trans c7
      have hrows7 := ch7.alld fd hrows
      obtain ⟨_, hx1, hrv7, hvR⟩ := rows_at hrows7 (i := v6) (v := .ref rv) (by rw [List.getElem?_map, hrv]; rfl)
      cases hx1
      have hvl := getD_len tab (i := v6) (by omega)
      have hvm : R.getD v6 [] ∈ R := List.mem_of_getElem? (i := v6) (by simp [hvR])
      dsimp only [tNil]
      have hll : (addk (List.replicate w' 0) (R.getD i []) z).length = (R.getD v6 []).length := by rw [ht2, hvl]
      refine ⟨p5, rv, _, _, R.getD v6 [], rfl, c7.sqTd fd6 (c6.sqTd fd5 h5), hrv7, hll, by rw [ht2]; omega, fun j _ => mo _ _ (by omega) (by omega) (Nat.le_trans (bd v6 j) hB), fun H8 p8 e8 h8 => ?_⟩
      dsimp only [gName]
      refine ⟨p8, _, ch7.trans (.of e8), (e8.feedAt fd7).le (by omega), e8.rl (c7.rld fd6 (c6.rld fd5 S5)), h8, by rw [addk_len _ hll, ht2], fun j => ?_, ?_, rfl⟩
      · rw [rf_addk _ hll, ht1]
        have h1 := b5 z _ (by omega) (by omega) (bd i j)
        have h2 : (((v7 : Int) - 2) * rf (R.getD v6 []) j).natAbs ≤ 2 * B' := by
          rw [Int.natAbs_mul]; exact Nat.mul_le_mul (by omega) (bd v6 j)
        have h3 := Int.natAbs_add_le (z * rf (R.getD i []) j) (((v7 : Int) - 2) * rf (R.getD v6 []) j)
        have h1' : (z * rf (R.getD i []) j).natAbs ≤ 3 * B' := h1
        omega
      · exact (lt1.plusk (Lat.row hvm) _).of_eq fun j => (rf_addk _ hll j).symm
    rintro σ H6 ⟨p6, r, ch6, fd6, ⟨as, hs6, hrows6⟩, h6, hrl6, hb6, hl6, rfl⟩
    refine ⟨_, rfl, .inl ⟨rfl, _, .inl (.inl hs6)⟩, _, rfl, p, _, _, rfl, rfl, hs6, szm (by rw [List.length_map, hrows6.length]; omega), ?_⟩
    refine ⟨S ++ [r], _, _, chg_mut0 ch6 fP hs6 (plain_lst _), (feedAt_upd fd6 hs6 ncp).le (by omega), RL.app hs6 hrows6 h6, by rw [List.length_append, hl]; rfl, fun q hq => ?_, rfl⟩
    rcases List.mem_append.mp hq with h | h
    · exact hall q h
    · rw [List.mem_singleton.mp h]; exact ⟨hrl6, hb6, hl6⟩
  rintro σ H2 ⟨S, u5, u6, ch, fd2, hS, hl, hall, rfl⟩
  refine ⟨fun σ H' => ∃ (S : List Row), Chg T d d H H' ∧ FeedAt H' d c (n + 20) ∧ RL K H' p S ∧ S.length ≤ m ∧ (∀ r ∈ S, r.length = w' ∧ (∀ j, (rf r j).natAbs ≤ 5 * B') ∧ Lat R (rf r)) ∧ σ = [some (.ref d), some (.ref a), some (.int (w' : Int)), some (.ref b), some (.ref p), u5, u6], ?_, ?_⟩
  · have lm : S.length = m := by omega
    refine ⟨_, rfl, by show 0 ≤ _; decide, fun q hq => ?_⟩
    have e1 : Ex T H2 (upd H2 q (.lst [])) := .new hq
    have fd1 := e1.feedAt fd2
    obtain ⟨as, hs1, hrows1⟩ := e1.rl hS
    have ch1 := ch.trans (.of e1)
    refine ⟨.list (S.map rowD), .list [], .lst (.of hs1) (dpAll_rows hrows1), .lst (.of upd_same) .nil, shaped_rows S, rfl, _, rfl, ?_⟩
    have e1 : PyData.eqv (.list (S.map rowD)) (.list []) = decide (S = []) := by
      simp only [PyData.eqv, eqvAll_nil]
      cases S <;> simp
    rw [e1]
    have out : ∀ H3, Chg T d d H H3 → FeedAt H3 d c (n + 20) → RL K H3 p S → ∃ S, Chg T d d H H3 ∧ FeedAt H3 d c (n + 20) ∧ RL K H3 p S ∧ S.length ≤ m ∧ (∀ r ∈ S, r.length = w' ∧ (∀ j, (rf r j).natAbs ≤ 5 * B') ∧ Lat R (rf r)) ∧ [some (V.ref d), some (.ref a), some (.int (w' : Int)), some (.ref b), some (.ref p), u5, u6] = [some (V.ref d), some (.ref a), some (.int (w' : Int)), some (.ref b), some (.ref p), u5, u6] := fun H3 h1 h2 h3 => ⟨S, h1, h2, h3, by omega, hall, rfl⟩
    refine ite2 (fun hne => ?_) fun he => iteF (out _ ch1 (fd1.le (by omega)) ⟨as, hs1, hrows1⟩)
    refine ⟨_, rfl, d, c, 6, _, rfl, fd1, by omega, by omega, by omega, fun H4 v c4 fd4 hv => ?_⟩
    have hR4 : RL K H4 p S := c4.rld fd1 ⟨as, hs1, hrows1⟩
    have ch4 := ch1.trans c4
    refine ⟨rfl, _, rfl, ite2 (fun h5 => ?_) fun h5 => out _ ch4 (fd4.le (by omega)) hR4⟩
    have hpos : 0 < S.length := by
      cases S with
      | nil => simp at hne
      | cons x S => simp
    obtain ⟨as0, hs4, hrows4⟩ := id hR4
    refine ⟨_, rfl, .inl ⟨rfl, _, .inl (.inl hs4)⟩, ?_⟩
    refine ⟨_, rfl, _, rfl, p, _, S.length, rfl, .inl (.of hs4), by rw [List.length_map, hrows4.length], ?_⟩
    dsimp only [tNil]
    refine ⟨d, c, S.length, _, rfl, fd4, by omega, by omega, by omega, fun H5 v5 c5 fd5 hv5 => ?_⟩
    obtain ⟨as, hs5, hrows5⟩ := c5.rld fd4 hR4
    have ch5 := ch4.trans c5
    have hlt : v5 < as.length := by rw [hrows5.length]; omega
    refine ⟨p, _, _, v5, .ref as[v5], rfl, rfl, hs5, by omega, by omega, by rw [List.length_map]; exact seqIndex_nat hlt, by rw [List.getElem?_map, List.getElem?_eq_getElem hlt]; rfl, ?_⟩
    refine ⟨S.eraseIdx v5, chg_mut0 ch5 fP hs5 (plain_lst _), (feedAt_upd fd5 hs5 ncp).le (by omega), RL.pop hs5 hrows5 v5, ?_, fun r hr => hall r (List.mem_of_mem_eraseIdx hr), rfl⟩
    have := List.length_eraseIdx_le S v5
    omega
  rintro σ H3 ⟨S, ch3, fd3, ⟨as, hs3, hrows3⟩, hl3, hrw, rfl⟩
  refine ⟨_, rfl, _, rfl, p, _, rfl, .inl ⟨.of hs3, fun pp hpp => ⟨by show 2 ≤ _; decide, fun pt hpt => ?_⟩⟩⟩
  have e4 : Ex T H3 (upd H3 pp (.tup (as.map V.ref))) := .new hpp
  have e5 := e4.trans (.new hpt (o := .tup [.int (w' : Int), .ref pp]))
  refine k _ pt S.length S (ch3.trans (.of e5)) (e5.feedAt fd3) ⟨pp, sqT_of upd_same, as, (Ex.new hpt).sqT (T := T) (sqT_of upd_same), e5.all hrows3⟩ ⟨rfl, fun r hr => (hrw r hr).1⟩ (rf_bd fun r hr => (hrw r hr).2.1) hl3 (sub_of fun r hr => (hrw r hr).2.2)
end
end K94

set_option Elab.async false
set_option linter.all false
set_option maxRecDepth 100000
/-! M10: a table led to rounds: spots, bounds, turns. -/
namespace K94
abbrev Mat := Nat → Nat → Int
/-- the first of the least numbers from k on -/
structure Spot (m w k : Nat) (E : Mat) (i j : Nat) : Prop where
  ki : k ≤ i
  im : i < m
  kj : k ≤ j
  jw : j < w
  ne : E i j ≠ 0
  le : ∀ a b, k ≤ a → a < m → k ≤ b → b < w → E a b ≠ 0 → (E i j).natAbs ≤ (E a b).natAbs
  lt : ∀ a b, k ≤ a → a < m → k ≤ b → b < w → E a b ≠ 0 → (a < i ∨ a = i ∧ b < j) → (E i j).natAbs < (E a b).natAbs
def sw (x y a : Nat) : Nat := if a = x then y else if a = y then x else a
theorem sw_l {x y : Nat} : sw x y x = y := by unfold sw; rw [if_pos rfl]
theorem sw_r {x y : Nat} : sw x y y = x := by unfold sw; split <;> simp_all
theorem sw_sw {x y a : Nat} : sw x y (sw x y a) = a := by unfold sw; split <;> split <;> simp_all
theorem sw_lt {x y a n : Nat} (hx : x < n) (hy : y < n) (ha : a < n) : sw x y a < n := by unfold sw; split <;> (try split) <;> omega
theorem sw_ge {x y a n : Nat} (hx : n ≤ x) (hy : n ≤ y) (ha : n ≤ a) : n ≤ sw x y a := by unfold sw; split <;> (try split) <;> omega
theorem sw_ne {x y a : Nat} (h : a ≠ y) : sw x y a ≠ x := by unfold sw; split <;> (try split) <;> omega
def swE (k i j : Nat) (E : Mat) : Mat := fun a b => E (sw k i a) (sw k j b)
def BdE (Z : Nat) (E : Mat) : Prop := ∀ a b, (E a b).natAbs ≤ Z
def mn (E : Mat) (a b c d : Nat) : Int := E a c * E b d - E a d * E b c
def MnE (Z : Nat) (E : Mat) : Prop := ∀ a b c d, (mn E a b c d).natAbs ≤ Z
def det3 (E : Mat) : Int := E 0 0 * mn E 1 2 1 2 - E 0 1 * mn E 1 2 0 2 + E 0 2 * mn E 1 2 0 1
theorem BdE.sw {Z k i j : Nat} {E : Mat} (h : BdE Z E) : BdE Z (swE k i j E) := fun a b => h _ _
theorem MnE.sw {Z k i j : Nat} {E : Mat} (h : MnE Z E) : MnE Z (swE k i j E) := fun a b c d => h _ _ _ _
/-- cleared at k -/
structure Clr (m w k : Nat) (E E' : Mat) : Prop where
  kk : E' k k = E k k
  row : ∀ b, k < b → b < w → E' k b = (E k b).fmod (E k k)
  col : ∀ a, k < a → a < m → E' a k = (E a k).fmod (E k k)
  mns : ∀ a b, k < a → a < m → k < b → b < w → E k k * E' a b - E' k b * E' a k = E k k * E a b - E k b * E a k
  out : ∀ a b, m ≤ a ∨ w ≤ b → E' a b = 0
  keep : ∀ a b, a < k ∨ b < k → E' a b = E a b
theorem mul_le {x y : Int} {X Y : Nat} (hx : x.natAbs ≤ X) (hy : y.natAbs ≤ Y) : (x * y).natAbs ≤ X * Y := by
  rw [Int.natAbs_mul]; exact Nat.mul_le_mul hx hy
theorem le_of_mul {t x : Int} {Z : Nat} (ht : t ≠ 0) (h : (t * x).natAbs ≤ Z) : x.natAbs ≤ Z := by
  rw [Int.natAbs_mul] at h
  have : 1 * x.natAbs ≤ t.natAbs * x.natAbs := Nat.mul_le_mul_right _ (by omega)
  omega
theorem Clr.bd0 {m w Z D : Nat} {E E' : Mat} (h : Clr m w 0 E E') (hm : m ≤ 3) (hw : w ≤ 3) (hm0 : 0 < m) (hw0 : 0 < w) (hp : E 0 0 ≠ 0) (hp5 : (E 0 0).natAbs ≤ 50) (hz : MnE Z E) (hD : (det3 E').natAbs ≤ D) :
    BdE (Z + 2500) E' ∧ MnE (D + 10000 * (Z + 2500)) E' := by
  have r0 : ∀ b, (E' 0 b).natAbs ≤ 50 := fun b => by
    by_cases h0 : b = 0
    · subst h0; rw [h.kk]; exact hp5
    · by_cases hb : b < w
      · rw [h.row b (by omega) hb]
        have := fmod_abs (x := E 0 b) hp
        omega
      · rw [h.out 0 b (.inr (by omega))]; simp
  have c0 : ∀ a, (E' a 0).natAbs ≤ 50 := fun a => by
    by_cases h0 : a = 0
    · subst h0; rw [h.kk]; exact hp5
    · by_cases ha : a < m
      · rw [h.col a (by omega) ha]
        have := fmod_abs (x := E a 0) hp
        omega
      · rw [h.out a 0 (.inl (by omega))]; simp
  have bd : BdE (Z + 2500) E' := fun a b => by
    by_cases ha0 : a = 0
    · subst ha0; have := r0 b; omega
    by_cases hb0 : b = 0
    · subst hb0; have := c0 a; omega
    by_cases hr : a < m ∧ b < w
    · have e := h.mns a b (by omega) hr.1 (by omega) hr.2
      have h1 := hz 0 a 0 b
      unfold K94.mn at h1
      have h2 := mul_le (r0 b) (c0 a)
      refine le_of_mul hp ?_
      generalize E 0 0 * E' a b = u at e ⊢
      generalize E' 0 b * E' a 0 = v at e h2
      omega
    · rw [h.out a b (by omega)]; simp
  refine ⟨bd, ?_⟩
  generalize Z + 2500 = Y at *
  have fit : 2 * (50 * Y) ≤ D + 10000 * Y := by omega
  have sub2 : ∀ {x y : Int} {X : Nat}, x.natAbs ≤ X → y.natAbs ≤ X → (x - y).natAbs ≤ 2 * X := fun h1 h2 => by omega
  have row0 : ∀ b c d, (mn E' 0 b c d).natAbs ≤ 2 * (50 * Y) := fun b c d => sub2 (mul_le (r0 c) (bd b d)) (mul_le (r0 d) (bd b c))
  have row0' : ∀ a c d, (mn E' a 0 c d).natAbs ≤ 2 * (50 * Y) := fun a c d => sub2 (Nat.le_trans (mul_le (bd a c) (r0 d)) (by rw [Nat.mul_comm]; exact Nat.le_refl _)) (Nat.le_trans (mul_le (bd a d) (r0 c)) (by rw [Nat.mul_comm]; exact Nat.le_refl _))
  have col0 : ∀ a b d, (mn E' a b 0 d).natAbs ≤ 2 * (50 * Y) := fun a b d => sub2 (mul_le (c0 a) (bd b d)) (Nat.le_trans (mul_le (bd a d) (c0 b)) (by rw [Nat.mul_comm]; exact Nat.le_refl _))
  have col0' : ∀ a b c, (mn E' a b c 0).natAbs ≤ 2 * (50 * Y) := fun a b c => sub2 (Nat.le_trans (mul_le (bd a c) (c0 b)) (by rw [Nat.mul_comm]; exact Nat.le_refl _)) (mul_le (c0 a) (bd b c))
  have big : (mn E' 1 2 1 2).natAbs ≤ D + 10000 * Y := by
    refine le_of_mul hp ?_
    have e : E 0 0 * mn E' 1 2 1 2 = det3 E' + E' 0 1 * mn E' 1 2 0 2 - E' 0 2 * mn E' 1 2 0 1 := by
      unfold det3; rw [h.kk]; grind
    have h1 := mul_le (r0 1) (col0 1 2 2)
    have h2 := mul_le (r0 2) (col0 1 2 1)
    rw [e]
    generalize E' 0 1 * mn E' 1 2 0 2 = u at h1 ⊢
    generalize E' 0 2 * mn E' 1 2 0 1 = v at h2 ⊢
    omega
  have oa : ∀ a b c d, 3 ≤ a → mn E' a b c d = 0 := fun a b c d ha => by unfold K94.mn; rw [h.out a c (by omega), h.out a d (by omega)]; simp
  have ob : ∀ a b c d, 3 ≤ b → mn E' a b c d = 0 := fun a b c d ha => by unfold K94.mn; rw [h.out b c (by omega), h.out b d (by omega)]; simp
  have oc : ∀ a b c d, 3 ≤ c → mn E' a b c d = 0 := fun a b c d ha => by unfold K94.mn; rw [h.out a c (by omega), h.out b c (by omega)]; simp
  have od : ∀ a b c d, 3 ≤ d → mn E' a b c d = 0 := fun a b c d ha => by unfold K94.mn; rw [h.out a d (by omega), h.out b d (by omega)]; simp
  intro a b c d
  by_cases a0 : a = 0
  · subst a0; exact Nat.le_trans (row0 b c d) fit
  by_cases b0 : b = 0
  · subst b0; exact Nat.le_trans (row0' a c d) fit
  by_cases c0' : c = 0
  · subst c0'; exact Nat.le_trans (col0 a b d) fit
  by_cases d0 : d = 0
  · subst d0; exact Nat.le_trans (col0' a b c) fit
  by_cases a3 : 3 ≤ a
  · rw [oa a b c d a3]; simp
  by_cases b3 : 3 ≤ b
  · rw [ob a b c d b3]; simp
  by_cases c3 : 3 ≤ c
  · rw [oc a b c d c3]; simp
  by_cases d3 : 3 ≤ d
  · rw [od a b c d d3]; simp
  have ha : a = 1 ∨ a = 2 := by omega
  have hb : b = 1 ∨ b = 2 := by omega
  have hc : c = 1 ∨ c = 2 := by omega
  have hd : d = 1 ∨ d = 2 := by omega
  have sab : ∀ a c d, mn E' a a c d = 0 := fun a c d => by unfold K94.mn; grind
  have scd : ∀ a b c, mn E' a b c c = 0 := fun a b c => by unfold K94.mn; grind
  have n1 : mn E' 2 1 1 2 = - mn E' 1 2 1 2 := by unfold K94.mn; grind
  have n2 : mn E' 1 2 2 1 = - mn E' 1 2 1 2 := by unfold K94.mn; grind
  have n3 : mn E' 2 1 2 1 = mn E' 1 2 1 2 := by unfold K94.mn; grind
  rcases ha with rfl | rfl <;> rcases hb with rfl | rfl <;> rcases hc with rfl | rfl <;> rcases hd with rfl | rfl <;> try simp only [sab, scd, n1, n2, n3, Int.natAbs_neg, Int.natAbs_zero]
  all_goals first | exact big | exact Nat.zero_le _
/-! ### a row joined to the top -/
def undE (k i : Nat) (E : Mat) : Mat := fun a b => if a = k then E k b + E i b else E a b
theorem BdE.und {Z k i : Nat} {E : Mat} (h : BdE Z E) : BdE (2 * Z) (undE k i E) := fun a b => by
  unfold undE
  have h1 := h k b
  have h2 := h i b
  have h3 := h a b
  split <;> omega
theorem MnE.und {Z k i : Nat} {E : Mat} (h : MnE Z E) : MnE (2 * Z) (undE k i E) := fun a b c d => by
  have h0 := h a b c d
  by_cases ha : a = k
  · by_cases hb : b = k
    · have : mn (undE k i E) a b c d = 0 := by subst ha; subst hb; unfold mn; grind
      rw [this]; simp
    · have : mn (undE k i E) a b c d = mn E k b c d + mn E i b c d := by
        subst ha; unfold mn undE; rw [if_pos rfl, if_neg hb, if_pos rfl, if_neg hb]; grind
      have h1 := h k b c d
      have h2 := h i b c d
      rw [this]; omega
  · by_cases hb : b = k
    · have : mn (undE k i E) a b c d = mn E a k c d + mn E a i c d := by
        subst hb; unfold mn undE; rw [if_pos rfl, if_neg ha, if_pos rfl, if_neg ha]; grind
      have h1 := h a k c d
      have h2 := h a i c d
      rw [this]; omega
    · have : mn (undE k i E) a b c d = mn E a b c d := by
        unfold mn undE; rw [if_neg ha, if_neg hb, if_neg ha, if_neg hb]
      rw [this]; omega
/-! ### turns -/
def InB (m w k a b : Nat) : Prop := k ≤ a ∧ a < m ∧ k ≤ b ∧ b < w
def PivLe (m w k : Nat) (E : Mat) (x : Nat) : Prop := ∀ i j, Spot m w k E i j → (E i j).natAbs ≤ x
theorem PivLe.of {m w k x a b : Nat} {E : Mat} (h : InB m w k a b) (hn : E a b ≠ 0) (hx : (E a b).natAbs ≤ x) : PivLe m w k E x := fun i j s =>
  Nat.le_trans (s.le a b h.1 h.2.1 h.2.2.1 h.2.2.2 hn) hx
theorem PivLe.mono {m w k x y : Nat} {E : Mat} (h : PivLe m w k E x) (hx : x ≤ y) : PivLe m w k E y := fun i j s => Nat.le_trans (h i j s) hx
def Fast (m w k : Nat) (E : Mat) (h : Nat) : Prop := ∀ i j, Spot m w k E i j → ∃ a b, InB m w k a b ∧ (a = i ∧ b ≠ j ∨ a ≠ i ∧ b = j) ∧ (E a b).fmod (E i j) ≠ 0 ∧ ((E a b).fmod (E i j)).natAbs ≤ h
theorem Fast.mono {m w k x y : Nat} {E : Mat} (h : Fast m w k E x) (hx : x ≤ y) : Fast m w k E y := fun i j s => by
  obtain ⟨a, b, h1, h2, h3, h4⟩ := h i j s
  exact ⟨a, b, h1, h2, h3, Nat.le_trans h4 hx⟩
def Clean (m w k : Nat) (E : Mat) : Prop := (∀ a, k < a → a < m → E a k = 0) ∧ ∀ b, k < b → b < w → E k b = 0
/-- what a turn that doesn't end leaves -/
def Next (m w k : Nat) (E E' : Mat) : Prop := (¬ Clean m w k E ∧ E' = E) ∨ (Clean m w k E ∧ ∃ i b, k < i ∧ i < m ∧ k < b ∧ b < w ∧ (E i b).fmod (E k k) ≠ 0 ∧ E' = undE k i E)
section
variable {m w k i j h : Nat} {E E1 E2 : Mat}
theorem not_clean (h : ¬ Clean m w k E) : (∃ a, k < a ∧ a < m ∧ E a k ≠ 0) ∨ ∃ b, k < b ∧ b < w ∧ E k b ≠ 0 := Classical.byContradiction fun q => h
  ⟨fun a h1 h2 => Classical.byContradiction fun z => q (.inl ⟨a, h1, h2, z⟩), fun a h1 h2 => Classical.byContradiction fun z => q (.inr ⟨a, h1, h2, z⟩)⟩
theorem swE_kk : swE k i j E k k = E i j := by unfold swE; rw [sw_l, sw_l]
theorem turn_fast (s : Spot m w k E i j) (c : Clr m w k (swE k i j E) E1) (n : Next m w k E1 E2) (f : Fast m w k E h) : PivLe m w k E2 h := by
  obtain ⟨a, b, hab, hor, h1, h2⟩ := f i j s
  have km : k < m := Nat.lt_of_le_of_lt s.ki s.im
  have kw : k < w := Nat.lt_of_le_of_lt s.kj s.jw
  have key : (∃ b', k < b' ∧ b' < w ∧ E1 k b' = (E a b).fmod (E i j)) ∨ ∃ a', k < a' ∧ a' < m ∧ E1 a' k = (E a b).fmod (E i j) := by
    rcases hor with ⟨rfl, hb⟩ | ⟨ha, rfl⟩
    · have g1 := sw_ne (x := k) hb
      have g2 := sw_ge (Nat.le_refl k) s.kj hab.2.2.1
      have g3 := sw_lt kw s.jw hab.2.2.2
      refine .inl ⟨sw k j b, by omega, g3, ?_⟩
      rw [c.row _ (by omega) g3, swE_kk]
      unfold swE
      rw [sw_l, sw_sw]
    · have g1 := sw_ne (x := k) ha
      have g2 := sw_ge (Nat.le_refl k) s.ki hab.1
      have g3 := sw_lt km s.im hab.2.1
      refine .inr ⟨sw k i a, by omega, g3, ?_⟩
      rw [c.col _ (by omega) g3, swE_kk]
      unfold swE
      rw [sw_l, sw_sw]
  rcases n with ⟨_, rfl⟩ | ⟨cl, _⟩
  · rcases key with ⟨b', k1, k2, e⟩ | ⟨a', k1, k2, e⟩
    · exact .of (a := k) (b := b') ⟨Nat.le_refl _, km, by omega, k2⟩ (by rw [e]; exact h1) (by rw [e]; exact h2)
    · exact .of (a := a') (b := k) ⟨by omega, k2, Nat.le_refl _, kw⟩ (by rw [e]; exact h1) (by rw [e]; exact h2)
  · rcases key with ⟨b', k1, k2, e⟩ | ⟨a', k1, k2, e⟩
    · rw [cl.2 b' k1 k2] at e; exact absurd e.symm h1
    · rw [cl.1 a' k1 k2] at e; exact absurd e.symm h1
theorem turn_lin (s : Spot m w k E i j) (c : Clr m w k (swE k i j E) E1) (n : Next m w k E1 E2) : PivLe m w k E2 ((E i j).natAbs - 1) ∨ (PivLe m w k E2 (E i j).natAbs ∧ Fast m w k E2 ((E i j).natAbs - 1)) := by
  have km : k < m := Nat.lt_of_le_of_lt s.ki s.im
  have kw : k < w := Nat.lt_of_le_of_lt s.kj s.jw
  have hne := s.ne
  have kk : E1 k k = E i j := by rw [c.kk, swE_kk]
  rcases n with ⟨nc, rfl⟩ | ⟨cl, i1, b1, h1, h2, h3, h4, h5, rfl⟩
  · left
    rcases not_clean nc with ⟨a, h1, h2, h3⟩ | ⟨b, h1, h2, h3⟩
    · refine .of (a := a) (b := k) ⟨by omega, h2, Nat.le_refl _, kw⟩ h3 ?_
      rw [c.col a h1 h2, swE_kk] at h3 ⊢
      have := fmod_abs (x := swE k i j E a k) hne
      omega
    · refine .of (a := k) (b := b) ⟨Nat.le_refl _, km, by omega, h2⟩ h3 ?_
      rw [c.row b h1 h2, swE_kk] at h3 ⊢
      have := fmod_abs (x := swE k i j E k b) hne
      omega
  · have ekk : undE k i1 E1 k k = E i j := by
      unfold undE; rw [if_pos rfl, kk, cl.1 i1 h1 h2]; simp
    have ekb : undE k i1 E1 k b1 = E1 i1 b1 := by
      unfold undE; rw [if_pos rfl, cl.2 b1 h3 h4]; simp
    have pk : PivLe m w k (undE k i1 E1) (E i j).natAbs := .of (a := k) (b := k) ⟨Nat.le_refl _, km, Nat.le_refl _, kw⟩ (by rw [ekk]; exact hne) (by rw [ekk]; exact Nat.le_refl _)
    by_cases q : PivLe m w k (undE k i1 E1) ((E i j).natAbs - 1)
    · exact .inl q
    refine .inr ⟨pk, fun i' j' s' => ?_⟩
    have : i' = k ∧ j' = k := Classical.byContradiction fun z => q fun i2 j2 s2 => by
      have l1 := s'.lt k k (Nat.le_refl _) km (Nat.le_refl _) kw (by rw [ekk]; exact hne) (by have := s'.ki; have := s'.kj; omega)
      have l2 := s2.le i' j' s'.ki s'.im s'.kj s'.jw s'.ne
      rw [ekk] at l1
      omega
    rw [this.1, this.2]
    rw [kk] at h5
    refine ⟨k, b1, ⟨Nat.le_refl _, km, by omega, h4⟩, .inl ⟨rfl, by omega⟩, ?_, ?_⟩
    · rw [ekk, ekb]; exact h5
    · rw [ekk, ekb]
      have := fmod_abs (x := E1 i1 b1) hne
      omega
theorem res_half {e t : Int} (hs : (0 ≤ e ∧ 0 < t) ∨ (e ≤ 0 ∧ t < 0)) (h1 : t.natAbs < e.natAbs) (h2 : e.natAbs < 2 * t.natAbs) : e.fmod t ≠ 0 ∧ 2 * (e.fmod t).natAbs ≤ e.natAbs := by
  have ht : t ≠ 0 := by omega
  refine ⟨fun z => ?_, fmod_half ht hs (by omega)⟩
  have e1 := Int.fmod_add_fdiv_mul e t
  rw [z, Int.zero_add] at e1
  have e2 : (e.fdiv t).natAbs * t.natAbs = e.natAbs := by rw [← Int.natAbs_mul, e1]
  have : (e.fdiv t).natAbs = 0 ∨ (e.fdiv t).natAbs = 1 ∨ 2 ≤ (e.fdiv t).natAbs := by omega
  rcases this with q | q | q
  · rw [q] at e2; omega
  · rw [q] at e2; omega
  · have := Nat.mul_le_mul_right t.natAbs q
    omega
/-- the corner that is left -/
theorem corner {t x y z d : Int} {D : Nat} (hd : d.natAbs ≤ D) (hD : 2 * D ≤ t.natAbs * t.natAbs) (ht : t ≠ 0) (e : t * z - x * y = d) (hxy : 0 ≤ x * y) (hs : ¬ ((0 < z ∧ 0 < t) ∨ (z < 0 ∧ t < 0))) : 2 * z.natAbs ≤ t.natAbs := by
  have h1 : t * z ≤ 0 := by
    rcases Int.lt_or_lt_of_ne ht with h | h
    · exact Int.mul_nonpos_of_nonpos_of_nonneg (by omega) (by omega)
    · exact Int.mul_nonpos_of_nonneg_of_nonpos (by omega) (by omega)
  have h2 : (t * z).natAbs ≤ D := by
    generalize t * z = u at *
    generalize x * y = v at *
    omega
  rw [Int.natAbs_mul] at h2
  have h3 : t.natAbs * (2 * z.natAbs) ≤ t.natAbs * t.natAbs := by
    have : t.natAbs * (2 * z.natAbs) = 2 * (t.natAbs * z.natAbs) := by grind
    omega
  exact Nat.le_of_mul_le_mul_left h3 (by omega)
theorem same_mul {x y : Int} (h : (0 ≤ x ∧ 0 ≤ y) ∨ (x ≤ 0 ∧ y ≤ 0)) : 0 ≤ x * y := by
  rcases h with ⟨h1, h2⟩ | ⟨h1, h2⟩
  · exact Int.mul_nonneg h1 h2
  · exact Int.mul_nonneg_of_nonpos_of_nonpos h1 h2
/-- in a block of two, a big top halves within two turns -/
theorem turn_half {D : Nat} (s : Spot m w k E i j) (c : Clr m w k (swE k i j E) E1) (n : Next m w k E1 E2) (hm : m ≤ k + 2) (hw : w ≤ k + 2) (hd : (mn (swE k i j E) k (k + 1) k (k + 1)).natAbs ≤ D) (hD : 2 * D ≤ (E i j).natAbs * (E i j).natAbs) :
    PivLe m w k E2 ((E i j).natAbs / 2) ∨ (PivLe m w k E2 (E i j).natAbs ∧ Fast m w k E2 ((E i j).natAbs / 2)) := by
  have km : k < m := Nat.lt_of_le_of_lt s.ki s.im
  have kw : k < w := Nat.lt_of_le_of_lt s.kj s.jw
  have hne := s.ne
  have kk : E1 k k = E i j := by rw [c.kk, swE_kk]
  have half : ∀ {u : Nat}, 2 * u ≤ (E i j).natAbs → u ≤ (E i j).natAbs / 2 := fun h => by omega
  rcases n with ⟨nc, rfl⟩ | ⟨cl, i1, b1, h1, h2, h3, h4, h5, rfl⟩
  · by_cases q : ∃ a b, InB m w k a b ∧ E2 a b ≠ 0 ∧ 2 * (E2 a b).natAbs ≤ (E i j).natAbs
    · obtain ⟨a, b, g1, g2, g3⟩ := q
      exact .inl (.of g1 g2 (half g3))
    have big : ∀ a b, InB m w k a b → E2 a b ≠ 0 → (E i j).natAbs < 2 * (E2 a b).natAbs := fun a b g1 g2 => Classical.byContradiction fun g3 => q ⟨a, b, g1, g2, by omega⟩
    refine .inr ⟨.of (a := k) (b := k) ⟨Nat.le_refl _, km, Nat.le_refl _, kw⟩ (by rw [kk]; exact hne) (by rw [kk]; exact Nat.le_refl _), fun i' j' s' => ?_⟩
    have gt := big i' j' ⟨s'.ki, s'.im, s'.kj, s'.jw⟩ s'.ne
    -- signs of the rests
    have sx : k + 1 < w → ((0 ≤ E2 k (k + 1) ∧ 0 < E i j) ∨ (E2 k (k + 1) ≤ 0 ∧ E i j < 0)) ∧ (E2 k (k + 1)).natAbs < (E i j).natAbs := fun hw1 => by
      rw [c.row (k + 1) (by omega) hw1, swE_kk]
      refine ⟨?_, fmod_abs hne⟩
      rcases Int.lt_or_lt_of_ne hne with h | h
      · exact .inr ⟨(fmod_neg h).1, h⟩
      · exact .inl ⟨(fmod_pos h).1, h⟩
    have sy : k + 1 < m → ((0 ≤ E2 (k + 1) k ∧ 0 < E i j) ∨ (E2 (k + 1) k ≤ 0 ∧ E i j < 0)) ∧ (E2 (k + 1) k).natAbs < (E i j).natAbs := fun hw1 => by
      rw [c.col (k + 1) (by omega) hw1, swE_kk]
      refine ⟨?_, fmod_abs hne⟩
      rcases Int.lt_or_lt_of_ne hne with h | h
      · exact .inr ⟨(fmod_neg h).1, h⟩
      · exact .inl ⟨(fmod_pos h).1, h⟩
    have nc' : (k + 1 < m ∧ E2 (k + 1) k ≠ 0) ∨ (k + 1 < w ∧ E2 k (k + 1) ≠ 0) := by
      rcases not_clean nc with ⟨a, g1, g2, g3⟩ | ⟨b, g1, g2, g3⟩
      · have : a = k + 1 := by omega
        subst this; exact .inl ⟨g2, g3⟩
      · have : b = k + 1 := by omega
        subst this; exact .inr ⟨g2, g3⟩
    have hi : i' = k ∨ i' = k + 1 := by have := s'.ki; have := s'.im; omega
    have hj : j' = k ∨ j' = k + 1 := by have := s'.kj; have := s'.jw; omega
    rcases hi with hi | hi <;> rcases hj with hj | hj <;> rw [hi, hj] at s' gt ⊢
    · -- the top itself: a rest is less
      rcases nc' with ⟨g1, g2⟩ | ⟨g1, g2⟩
      · have q1 := s'.le (k + 1) k (by omega) g1 (Nat.le_refl _) kw g2
        have := (sy g1).2
        rw [kk] at q1
        omega
      · have q1 := s'.le k (k + 1) (Nat.le_refl _) km (by omega) g1 g2
        have := (sx g1).2
        rw [kk] at q1
        omega
    · -- to the right
      have g := s'.jw
      obtain ⟨g1, g2⟩ := sx g
      have gn := s'.ne
      obtain ⟨r1, r2⟩ := res_half (e := E i j) (t := E2 k (k + 1)) (by omega) g2 gt
      exact ⟨k, k, ⟨Nat.le_refl _, km, Nat.le_refl _, kw⟩, .inl ⟨rfl, by omega⟩, by rw [kk]; exact r1, by rw [kk]; exact half r2⟩
    · have g := s'.im
      obtain ⟨g1, g2⟩ := sy g
      have gn := s'.ne
      obtain ⟨r1, r2⟩ := res_half (e := E i j) (t := E2 (k + 1) k) (by omega) g2 gt
      exact ⟨k, k, ⟨Nat.le_refl _, km, Nat.le_refl _, kw⟩, .inr ⟨by omega, rfl⟩, by rw [kk]; exact r1, by rw [kk]; exact half r2⟩
    · -- the corner
      have gm := s'.im
      have gw := s'.jw
      have gn := s'.ne
      obtain ⟨x1, x2⟩ := sx gw
      obtain ⟨y1, y2⟩ := sy gm
      have e := c.mns (k + 1) (k + 1) (by omega) gm (by omega) gw
      rw [swE_kk] at e
      have em : (mn (swE k i j E) k (k + 1) k (k + 1)) = E i j * swE k i j E (k + 1) (k + 1) - swE k i j E k (k + 1) * swE k i j E (k + 1) k := by unfold mn; rw [swE_kk]
      rw [← em] at e
      have sz : (0 < E2 (k + 1) (k + 1) ∧ 0 < E i j) ∨ (E2 (k + 1) (k + 1) < 0 ∧ E i j < 0) := Classical.byContradiction fun z => by
        have := corner hd hD hne e (same_mul (by omega)) z
        omega
      have byl : ∀ u : Int, ((0 ≤ u ∧ 0 < E i j) ∨ (u ≤ 0 ∧ E i j < 0)) → u.natAbs < (E i j).natAbs → (E2 (k + 1) (k + 1)).natAbs < u.natAbs → u.fmod (E2 (k + 1) (k + 1)) ≠ 0 ∧ (u.fmod (E2 (k + 1) (k + 1))).natAbs ≤ (E i j).natAbs / 2 := fun u u1 u2 u3 => by
        obtain ⟨r1, r2⟩ := res_half (e := u) (t := E2 (k + 1) (k + 1)) (by omega) u3 (by omega)
        exact ⟨r1, half (by omega)⟩
      rcases nc' with ⟨_, g2⟩ | ⟨_, g2⟩
      · have l := s'.lt (k + 1) k (by omega) gm (Nat.le_refl _) kw g2 (.inr ⟨rfl, by omega⟩)
        obtain ⟨r1, r2⟩ := byl _ y1 y2 l
        exact ⟨k + 1, k, ⟨by omega, gm, Nat.le_refl _, kw⟩, .inl ⟨rfl, by omega⟩, r1, r2⟩
      · have l := s'.lt k (k + 1) (Nat.le_refl _) km (by omega) gw g2 (.inl (by omega))
        obtain ⟨r1, r2⟩ := byl _ x1 x2 l
        exact ⟨k, k + 1, ⟨Nat.le_refl _, km, by omega, gw⟩, .inr ⟨by omega, rfl⟩, r1, r2⟩
  · left
    have : i1 = k + 1 := by omega
    subst this
    have : b1 = k + 1 := by omega
    subst this
    have e := c.mns (k + 1) (k + 1) (by omega) h2 (by omega) h4
    rw [swE_kk, cl.1 (k + 1) (by omega) h2, Int.mul_zero, Int.sub_zero] at e
    have em : (mn (swE k i j E) k (k + 1) k (k + 1)) = E i j * swE k i j E (k + 1) (k + 1) - swE k i j E k (k + 1) * swE k i j E (k + 1) k := by unfold mn; rw [swE_kk]
    rw [← em] at e
    have zn : E1 (k + 1) (k + 1) ≠ 0 := fun z => h5 (by rw [z, Int.zero_fmod])
    rw [← e, Int.natAbs_mul] at hd
    have h3 : (E i j).natAbs * (2 * (E1 (k + 1) (k + 1)).natAbs) ≤ (E i j).natAbs * (E i j).natAbs := by
      have : (E i j).natAbs * (2 * (E1 (k + 1) (k + 1)).natAbs) = 2 * ((E i j).natAbs * (E1 (k + 1) (k + 1)).natAbs) := by grind
      omega
    have h6 := Nat.le_of_mul_le_mul_left h3 (by omega)
    have ekb : undE k (k + 1) E1 k (k + 1) = E1 (k + 1) (k + 1) := by
      unfold undE; rw [if_pos rfl, cl.2 (k + 1) (by omega) h4]; simp
    exact .of (a := k) (b := k + 1) ⟨Nat.le_refl _, km, by omega, h4⟩ (by rw [ekb]; exact zn) (by rw [ekb]; exact half h6)
end
end K94

set_option Elab.async false
set_option linter.all false
set_option maxRecDepth 100000
/-! M11: a table led to rounds: what a deed keeps, how long it takes. -/
namespace K94
def tr (E : Mat) : Mat := fun a b => E b a
theorem ent_cols {m w : Nat} {R : List Row} (h : Tab m w R) {d : Deed} (hd : DeedOk w d) : ent (colsB R d) = tr (entB (tr (ent R)) d) := by
  funext a c
  by_cases ha : a < m
  · rw [ent_colsB h hd ha]
    unfold tr
    cases d <;> rfl
  · rw [ent_out1 (h.colsB d) (by omega)]
    have z : ∀ c, ent R a c = 0 := fun c => ent_out1 h (by omega)
    unfold tr entB
    cases d <;> simp only [z] <;> (try split) <;> (try split) <;> simp
/-! ### what has been led -/
structure Blk (k : Nat) (E : Mat) : Prop where
  off : ∀ i j, i ≠ j → (i < k ∨ j < k) → E i j = 0
  nonneg : ∀ i, i < k → 0 ≤ E i i
  dvd : ∀ i a b, i < k → i ≤ a → i ≤ b → E i i ∣ E a b
def GeD (k : Nat) : Deed → Prop
  | .swap i j => k ≤ i ∧ k ≤ j
  | .turn i => k ≤ i
  | .add i j _ => k ≤ i ∧ k ≤ j
theorem Blk.start (E : Mat) : Blk 0 E := ⟨fun i j _ h => by omega, fun i h => by omega, fun i a b h => by omega⟩
theorem Blk.tr {k : Nat} {E : Mat} (h : Blk k E) : Blk k (tr E) := ⟨fun i j n q => h.off j i (fun e => n e.symm) (by omega), h.nonneg, fun i a b h1 h2 h3 => h.dvd i b a h1 h3 h2⟩
theorem Blk.row {k : Nat} {E : Mat} (h : Blk k E) {d : Deed} (g : GeD k d) : Blk k (entB E d) := by
  have same : ∀ a c, a < k → entB E d a c = E a c := fun a c ha => by
    unfold entB
    cases d with
    | swap i j => obtain ⟨g1, g2⟩ := g; dsimp only; rw [if_neg (by omega), if_neg (by omega)]
    | turn i => have g1 : k ≤ i := g; dsimp only; rw [if_neg (by omega)]
    | add i j q => obtain ⟨g1, g2⟩ := g; dsimp only; rw [if_neg (by omega)]
  refine ⟨fun a c hn hk => ?_, fun i hi => by rw [same i i hi]; exact h.nonneg i hi, fun i a b hi ha hb => ?_⟩
  · by_cases hak : a < k
    · rw [same a c hak]; exact h.off a c hn hk
    · have hc : c < k := by omega
      have z : ∀ x, k ≤ x → E x c = 0 := fun x hx => h.off x c (by omega) (.inr hc)
      unfold entB
      cases d with
      | swap i j => obtain ⟨g1, g2⟩ := g; dsimp only; rw [z i g1, z j g2, z a (by omega)]; simp
      | turn i => have g1 : k ≤ i := g; dsimp only; rw [z a (by omega)]; simp
      | add i j q => obtain ⟨g1, g2⟩ := g; dsimp only; rw [z i g1, z j g2, z a (by omega)]; simp
  · rw [same i i hi]
    unfold entB
    cases d with
    | swap i' j => obtain ⟨g1, g2⟩ := g; dsimp only; split; exact h.dvd i j b hi (by omega) hb; split; exact h.dvd i i' b hi (by omega) hb; exact h.dvd i a b hi ha hb
    | turn i' => have g1 : k ≤ i' := g; dsimp only; split; exact Int.dvd_neg.mpr (h.dvd i a b hi ha hb); exact h.dvd i a b hi ha hb
    | add i' j q => obtain ⟨g1, g2⟩ := g; dsimp only; split; exact Int.dvd_add (h.dvd i i' b hi (by omega) hb) (Int.dvd_trans (h.dvd i j b hi (by omega) hb) (Int.dvd_mul_left _ _)); exact h.dvd i a b hi ha hb
theorem det_tr (E : Mat) : det3 (tr E) = det3 E := by unfold det3 mn tr; grind
theorem det_row {E : Mat} {d : Deed} (hd : DeedOk 3 d) : (det3 (entB E d)).natAbs = (det3 E).natAbs := by
  have key : det3 (entB E d) = det3 E ∨ det3 (entB E d) = - det3 E := by
    cases d with
    | swap i j =>
      obtain ⟨h1, h2, h3⟩ := hd
      right
      have : i = 0 ∨ i = 1 ∨ i = 2 := by omega
      have : j = 0 ∨ j = 1 ∨ j = 2 := by omega
      rcases ‹i = 0 ∨ _› with rfl | rfl | rfl <;> rcases ‹j = 0 ∨ _› with rfl | rfl | rfl <;> first | exact absurd rfl h3 | (unfold det3 mn entB; simp; grind)
    | turn i =>
      have h1 : i < 3 := hd
      right
      have : i = 0 ∨ i = 1 ∨ i = 2 := by omega
      rcases this with rfl | rfl | rfl <;> (unfold det3 mn entB; simp; grind)
    | add i j q =>
      obtain ⟨h1, h2, h3⟩ := hd
      left
      have : i = 0 ∨ i = 1 ∨ i = 2 := by omega
      have : j = 0 ∨ j = 1 ∨ j = 2 := by omega
      rcases ‹i = 0 ∨ _› with rfl | rfl | rfl <;> rcases ‹j = 0 ∨ _› with rfl | rfl | rfl <;> first | exact absurd rfl h3 | (unfold det3 mn entB; simp; grind)
  rcases key with e | e <;> rw [e]
  simp
/-! ### levels -/
def gL (n : Nat) : Nat := if n ≤ 2048 then n else 2048 * 2 ^ (n - 2048)
theorem gL_zero : gL 0 = 0 := by unfold gL; simp
theorem gL_lin {n : Nat} (h : n < 2048) : gL (n + 1) = gL n + 1 := by unfold gL; rw [if_pos (by omega), if_pos (by omega)]
theorem gL_big {n : Nat} (h : 2048 ≤ n) : gL (n + 1) = 2 * gL n ∧ 2048 ≤ gL n := by
  unfold gL
  rw [if_neg (by omega)]
  by_cases e : n = 2048
  · subst e; simp
  · rw [if_neg (by omega)]
    have : n + 1 - 2048 = (n - 2048) + 1 := by omega
    rw [this, Nat.pow_succ]
    have := Nat.pow_pos (n := n - 2048) (show 0 < 2 by decide)
    exact ⟨by grind, by omega⟩
section
variable {m w k n i j : Nat} {E E1 E2 : Mat}
def Lv (m w k n : Nat) (E : Mat) : Prop := (∃ l, n = 2 * l ∧ PivLe m w k E (gL l)) ∨ ∃ l, n = 2 * l + 1 ∧ PivLe m w k E (gL (l + 1)) ∧ Fast m w k E (gL l)
theorem Lv.pos (h : Lv m w k n E) (s : Spot m w k E i j) : 1 ≤ n := by
  rcases h with ⟨l, rfl, h⟩ | ⟨l, rfl, _⟩
  · have h1 := h i j s
    have h2 := s.ne
    cases l with
    | zero => rw [gL_zero] at h1; omega
    | succ l => omega
  · omega
theorem lv_step (h : Lv m w k n E) (s : Spot m w k E i j) (c : Clr m w k (swE k i j E) E1) (x : Next m w k E1 E2)
    (half : 2048 < (E i j).natAbs → PivLe m w k E2 ((E i j).natAbs / 2) ∨ (PivLe m w k E2 (E i j).natAbs ∧ Fast m w k E2 ((E i j).natAbs / 2))) : ∃ n', n' < n ∧ Lv m w k n' E2 := by
  rcases h with ⟨l, rfl, h⟩ | ⟨l, rfl, h, f⟩
  · have hp := h i j s
    have hn := s.ne
    cases l with
    | zero => rw [gL_zero] at hp; omega
    | succ l =>
      have lin := turn_lin s c x
      by_cases small : (E i j).natAbs ≤ gL l
      · refine ⟨2 * l, by omega, .inl ⟨l, rfl, ?_⟩⟩
        rcases lin with q | ⟨q, _⟩
        · exact q.mono (by omega)
        · exact q.mono small
      have fin : ∀ hh, hh ≤ gL l → (PivLe m w k E2 hh ∨ (PivLe m w k E2 (E i j).natAbs ∧ Fast m w k E2 hh)) → ∃ n', n' < 2 * (l + 1) ∧ Lv m w k n' E2 := fun hh hl q => by
        rcases q with q | ⟨q, f⟩
        · exact ⟨2 * l, by omega, .inl ⟨l, rfl, q.mono hl⟩⟩
        · exact ⟨2 * l + 1, by omega, .inr ⟨l, rfl, q.mono hp, f.mono hl⟩⟩
      by_cases hl : l < 2048
      · rw [gL_lin hl] at hp
        exact fin _ (by omega) lin
      · obtain ⟨g1, g2⟩ := gL_big (n := l) (by omega)
        rw [g1] at hp
        exact fin _ (by omega) (half (by omega))
  · exact ⟨2 * l, by omega, .inl ⟨l, rfl, turn_fast s c x f⟩⟩
/-! ### what holds at a turn's start -/
def Wk (m w k n : Nat) (E : Mat) : Prop := match k with
  | 0 => ∃ t, n + t ≤ 100 ∧ BdE (2 ^ (26 + 16 * t)) E ∧ MnE (2 ^ (26 + 16 * t)) E ∧ PivLe m w 0 E 50 ∧ Lv m w 0 n E
  | 1 => BdE (2 ^ 2000 + 2 ^ 20) E ∧ PivLe m w 1 E (2 ^ 2000) ∧ Lv m w 1 n E
  | _ => 1 ≤ n ∧ BdE (2 ^ 2001) E
theorem pow2_le {a b : Nat} (h : a ≤ b) : 2 ^ a ≤ 2 ^ b := Nat.pow_le_pow_right (by decide) h
theorem Wk.bd (h : Wk m w k n E) : BdE (2 ^ 2001) E := by
  match k, h with
  | 0, ⟨t, h1, h2, _⟩ => exact fun a b => Nat.le_trans (h2 a b) (pow2_le (by omega))
  | 1, ⟨h2, _⟩ => exact fun a b => Nat.le_trans (h2 a b) (by
      have e1 : (2 : Nat) ^ 2001 = 2 ^ 2000 + 2 ^ 2000 := by rw [Nat.pow_succ]; omega
      have e2 : (2 : Nat) ^ 20 ≤ 2 ^ 2000 := pow2_le (by decide)
      rw [e1]
      exact Nat.add_le_add_left e2 _)
  | k + 2, ⟨_, h2⟩ => exact h2
theorem Wk.pos (h : Wk m w k n E) (s : Spot m w k E i j) : 1 ≤ n := by
  match k, h, s with
  | 0, ⟨t, h1, h2, _, _, h⟩, s => exact h.pos s
  | 1, ⟨h2, _, h⟩, s => exact h.pos s
  | k + 2, ⟨h, h2⟩, s => exact h
theorem Wk.start0 (h : BdE 50 E) : Wk m w 0 100 E := by
  refine ⟨0, Nat.le_refl _, fun a b => Nat.le_trans (h a b) (by decide), fun a b c d => ?_, fun i j s => h i j, .inl ⟨50, rfl, fun i j s => h i j⟩⟩
  have h1 := mul_le (h a c) (h b d)
  have h2 := mul_le (h a d) (h b c)
  have e : (2 : Nat) ^ (26 + 16 * 0) = 67108864 := by decide
  rw [e]
  unfold mn
  generalize E a c * E b d = u at *
  generalize E a d * E b c = v at *
  omega
theorem gL_top : gL 4037 = 2 ^ 2000 := by
  unfold gL
  rw [if_neg (by decide), show (2 : Nat) ^ 2000 = 2 ^ 11 * 2 ^ 1989 from Nat.pow_add 2 11 1989]
theorem Wk.start1 (h : BdE (2 ^ 2000) E) : Wk m w 1 8074 E :=
  ⟨fun a b => Nat.le_trans (h a b) (Nat.le_add_right _ _), fun i j s => h i j, .inl ⟨4037, rfl, fun i j s => by rw [gL_top]; exact h i j⟩⟩
theorem Wk.start2 (h : BdE (2 ^ 2001) E) : Wk m w (k + 2) 1 E := ⟨Nat.le_refl _, h⟩
def Zk : Nat → Nat
  | 0 => 2 ^ 2000
  | _ => 2 ^ 2001
theorem lin_le (s : Spot m w k E i j) (c : Clr m w k (swE k i j E) E1) (x : Next m w k E1 E2) : PivLe m w k E2 (E i j).natAbs := by
  rcases turn_lin s c x with q | ⟨q, _⟩
  · exact q.mono (by omega)
  · exact q
theorem Wk.turn0 (h : Wk m w 0 n E) (s : Spot m w 0 E i j) (c : Clr m w 0 (swE 0 i j E) E1) (hm : m ≤ 3) (hw : w ≤ 3) (hd : (det3 E1).natAbs ≤ 2 ^ 20) :
    BdE (2 ^ 2000) E1 ∧ ∀ E2, Next m w 0 E1 E2 → ∃ n', n' < n ∧ Wk m w 0 n' E2 := by
  obtain ⟨t, ht, hb, hmn, hp, hl⟩ := h
  have p5 := hp i j s
  have hs := s.ne
  obtain ⟨b1, b2⟩ := c.bd0 hm hw (by have := s.im; omega) (by have := s.jw; omega) (by rw [swE_kk]; exact hs) (by rw [swE_kk]; exact p5) hmn.sw hd
  have e : (2 : Nat) ^ (26 + 16 * (t + 1)) = 65536 * 2 ^ (26 + 16 * t) := by
    rw [show 26 + 16 * (t + 1) = 16 + (26 + 16 * t) by omega, Nat.pow_add]
  have e2 : 67108864 ≤ 2 ^ (26 + 16 * t) := Nat.le_trans (by decide) (pow2_le (show 26 ≤ 26 + 16 * t by omega))
  have e3 : (2 : Nat) ^ (26 + 16 * t) ≤ 2 ^ 1700 := pow2_le (by omega)
  have e4 : (2 : Nat) ^ 1700 + 2500 ≤ 2 ^ 2000 := by
    rw [show (2 : Nat) ^ 2000 = 2 ^ 300 * 2 ^ 1700 from Nat.pow_add 2 300 1700]
    have h1 : 4096 ≤ 2 ^ 300 := Nat.le_trans (by decide) (pow2_le (show 12 ≤ 300 by decide))
    have h2 : 1 ≤ 2 ^ 1700 := Nat.pow_pos (by decide)
    have h3 := Nat.mul_le_mul_right (2 ^ 1700) h1
    generalize (2 : Nat) ^ 1700 = u at *
    generalize (2 : Nat) ^ 300 * u = v at *
    omega
  have d20 : (2 : Nat) ^ 20 = 1048576 := by decide
  rw [d20] at b2
  generalize hX : 1048576 + 10000 * (2 ^ (26 + 16 * t) + 2500) = X at b2
  have f1 : 2 ^ (26 + 16 * t) + 2500 ≤ 2 ^ 2000 := Nat.le_trans (Nat.add_le_add_right e3 _) e4
  clear e3 e4
  refine ⟨fun a b => Nat.le_trans (b1 a b) f1, fun E2 x => ?_⟩
  clear f1
  obtain ⟨n', hn', hl'⟩ := lv_step hl s c x (fun big => by omega)
  have lin := (lin_le s c x).mono p5
  refine ⟨n', hn', t + 1, by omega, ?_, ?_, lin, hl'⟩
  · rw [e]
    generalize (2 : Nat) ^ (26 + 16 * t) = Z at *
    have g2 : 2 * (Z + 2500) ≤ 65536 * Z := by omega
    have g1 : Z + 2500 ≤ 65536 * Z := by omega
    rcases x with ⟨_, rfl⟩ | ⟨_, i1, b1', _, _, _, _, _, rfl⟩
    · exact fun a b => Nat.le_trans (b1 a b) g1
    · exact fun a b => Nat.le_trans (b1.und a b) g2
  · rw [e]
    generalize (2 : Nat) ^ (26 + 16 * t) = Z at *
    have g2 : 2 * X ≤ 65536 * Z := by omega
    have g1 : X ≤ 65536 * Z := by omega
    rcases x with ⟨_, rfl⟩ | ⟨_, i1, b1', _, _, _, _, _, rfl⟩
    · exact fun a b c d => Nat.le_trans (b2 a b c d) g1
    · exact fun a b c d => Nat.le_trans (b2.und a b c d) g2
theorem Wk.turn1 (h : Wk m w 1 n E) (s : Spot m w 1 E i j) (c : Clr m w 1 (swE 1 i j E) E1) (hm : m ≤ 3) (hw : w ≤ 3) (blk : Blk 1 (swE 1 i j E)) (hd : (det3 (swE 1 i j E)).natAbs ≤ 2 ^ 20) :
    BdE (2 ^ 2001) E1 ∧ ∀ E2, Next m w 1 E1 E2 → ∃ n', n' < n ∧ Wk m w 1 n' E2 := by
  obtain ⟨hb, hp, hl⟩ := id h
  have pP := hp i j s
  have hs := s.ne
  have km : 1 < m := Nat.lt_of_le_of_lt s.ki s.im
  have kw : 1 < w := Nat.lt_of_le_of_lt s.kj s.jw
  have dm : (mn (swE 1 i j E) 1 2 1 2).natAbs ≤ 2 ^ 20 := by
    refine le_of_mul (t := swE 1 i j E 0 0) (fun z => ?_) ?_
    · have := blk.dvd 0 1 1 (by decide) (by decide) (by decide)
      rw [z, swE_kk] at this
      exact hs (Int.zero_dvd.mp this)
    · have : det3 (swE 1 i j E) = swE 1 i j E 0 0 * mn (swE 1 i j E) 1 2 1 2 := by
        unfold det3
        rw [blk.off 0 1 (by decide) (.inl (by decide)), blk.off 0 2 (by decide) (.inl (by decide))]
        simp
      rw [← this]; exact hd
  have b1 : BdE (2 ^ 2000 + 2 ^ 20) E1 := fun a b => by
    by_cases hk : a < 1 ∨ b < 1
    · rw [c.keep a b hk]; exact hb.sw a b
    by_cases ho : m ≤ a ∨ w ≤ b
    · rw [c.out a b ho]; simp
    have fa : (E i j).natAbs ≤ 2 ^ 2000 + 2 ^ 20 := Nat.le_trans pP (Nat.le_add_right _ _)
    have ha : a = 1 ∨ a = 2 := by omega
    have hb' : b = 1 ∨ b = 2 := by omega
    rcases ha with rfl | rfl <;> rcases hb' with rfl | rfl
    · rw [c.kk, swE_kk]; exact fa
    · rw [c.row 2 (by decide) (by omega), swE_kk]
      exact Nat.le_trans (Nat.le_of_lt (fmod_abs hs)) fa
    · rw [c.col 2 (by decide) (by omega), swE_kk]
      exact Nat.le_trans (Nat.le_of_lt (fmod_abs hs)) fa
    · have e := c.mns 2 2 (by decide) (by omega) (by decide) (by omega)
      rw [swE_kk] at e
      have em : mn (swE 1 i j E) 1 2 1 2 = E i j * swE 1 i j E 2 2 - swE 1 i j E 1 2 * swE 1 i j E 2 1 := by unfold mn; rw [swE_kk]
      rw [← em] at e
      have x1 : (E1 1 2).natAbs ≤ (E i j).natAbs := by
        rw [c.row 2 (by decide) (by omega), swE_kk]; exact Nat.le_of_lt (fmod_abs hs)
      have y1 : (E1 2 1).natAbs ≤ (E i j).natAbs := by
        rw [c.col 2 (by decide) (by omega), swE_kk]; exact Nat.le_of_lt (fmod_abs hs)
      have xy := mul_le x1 y1
      have tz : (E i j).natAbs * (E1 2 2).natAbs ≤ 2 ^ 20 + (E i j).natAbs * (E i j).natAbs := by
        rw [← Int.natAbs_mul]
        generalize E i j * E1 2 2 = u at *
        generalize E1 1 2 * E1 2 1 = v at *
        generalize (E i j).natAbs * (E i j).natAbs = q at *
        generalize (2 : Nat) ^ 20 = D at *
        omega
      have pos : 1 ≤ (E i j).natAbs := by omega
      have tz2 : (E i j).natAbs * (E1 2 2).natAbs ≤ (E i j).natAbs * (2 ^ 20 + (E i j).natAbs) := by
        have := Nat.mul_le_mul_right (2 ^ 20) pos
        rw [Nat.mul_add]
        omega
      have := Nat.le_of_mul_le_mul_left tz2 pos
      generalize (2 : Nat) ^ 2000 = Z at *
      generalize (2 : Nat) ^ 20 = D at *
      omega
  have big : BdE (2 ^ 2001) E1 := Wk.bd (n := 2 * 4037) (m := m) (w := w) (k := 1) (E := E1) ⟨b1, fun i' j' s' => by
    have := s'.le 1 1 (by decide) km (by decide) kw (by rw [c.kk, swE_kk]; exact hs)
    rw [c.kk, swE_kk] at this
    exact Nat.le_trans this pP, .inl ⟨4037, rfl, fun i' j' s' => by
    have := s'.le 1 1 (by decide) km (by decide) kw (by rw [c.kk, swE_kk]; exact hs)
    rw [c.kk, swE_kk] at this
    rw [gL_top]
    exact Nat.le_trans this pP⟩⟩
  refine ⟨big, fun E2 x => ?_⟩
  obtain ⟨n', hn', hl'⟩ := lv_step hl s c x fun big => turn_half s c x hm hw dm (by
    have : 2048 * 2048 ≤ (E i j).natAbs * (E i j).natAbs := Nat.mul_le_mul (by omega) (by omega)
    have : (2 : Nat) ^ 20 = 1048576 := by decide
    omega)
  refine ⟨n', hn', ?_, (lin_le s c x).mono pP, hl'⟩
  rcases x with ⟨_, rfl⟩ | ⟨cl, i1, b1', h1, h2, h3, h4, _, rfl⟩
  · exact b1
  · have : i1 = 2 := by omega
    subst this
    intro a b
    unfold undE
    by_cases ha : a = 1
    · rw [if_pos ha]
      by_cases hb0 : b = 0
      · subst hb0
        rw [c.keep 1 0 (.inr (by decide)), c.keep 2 0 (.inr (by decide)), blk.off 1 0 (by decide) (.inr (by decide)), blk.off 2 0 (by decide) (.inr (by decide))]
        simp
      by_cases hb1 : b = 1
      · subst hb1
        rw [cl.1 2 (by decide) (by omega), Int.add_zero]; exact b1 1 1
      by_cases hb2 : b = 2
      · subst hb2
        rw [cl.2 2 (by decide) (by omega), Int.zero_add]; exact b1 2 2
      · rw [c.out 1 b (.inr (by omega)), c.out 2 b (.inr (by omega))]; simp
    · rw [if_neg ha]; exact b1 a b
theorem Wk.turn2 (h : Wk m w (k + 2) n E) (s : Spot m w (k + 2) E i j) (c : Clr m w (k + 2) (swE (k + 2) i j E) E1) (hm : m ≤ 3) (hw : w ≤ 3) :
    BdE (2 ^ 2001) E1 ∧ ∀ E2, ¬ Next m w (k + 2) E1 E2 := by
  have b := h.2
  refine ⟨fun a b' => ?_, fun E2 x => ?_⟩
  · by_cases hk : a < k + 2 ∨ b' < k + 2
    · rw [c.keep a b' hk]; exact b.sw a b'
    by_cases ho : m ≤ a ∨ w ≤ b'
    · rw [c.out a b' ho]; exact Nat.zero_le _
    have : a = k + 2 := by omega
    subst this
    have : b' = k + 2 := by omega
    subst this
    rw [c.kk]; exact b.sw _ _
  · rcases x with ⟨nc, _⟩ | ⟨_, i1, b1', h1, h2, _⟩
    · rcases not_clean nc with ⟨a, h1, h2, _⟩ | ⟨a, h1, h2, _⟩ <;> omega
    · omega
/-- a turn -/
theorem Wk.turn (h : Wk m w k n E) (s : Spot m w k E i j) (c : Clr m w k (swE k i j E) E1) (hm : m ≤ 3) (hw : w ≤ 3) (blk : Blk k (swE k i j E)) (hd : (det3 (swE k i j E)).natAbs ≤ 2 ^ 20) (hd1 : (det3 E1).natAbs ≤ 2 ^ 20) :
    BdE (Zk k) E1 ∧ ∀ E2, Next m w k E1 E2 → ∃ n', n' < n ∧ Wk m w k n' E2 := by
  match k, h, s, c, blk, hd with
  | 0, h, s, c, _, hd => exact h.turn0 s c hm hw hd1
  | 1, h, s, c, blk, hd => exact h.turn1 s c hm hw blk hd
  | k + 2, h, s, c, blk, hd =>
    obtain ⟨h1, h2⟩ := h.turn2 s c hm hw
    exact ⟨h1, fun E2 x => absurd x (h2 E2)⟩
end
end K94

set_option Elab.async false
set_option linter.all false
set_option maxRecDepth 100000
/-! M12: a table led to rounds: states, a clearing, an end. -/
namespace K94
def DB : Deed → Prop
  | .add _ _ q => q.natAbs ≤ 2 ^ 2002
  | _ => True
structure St (m w k : Nat) (R0 R : List Row) (rd cd : List Deed) : Prop where
  led : Led m w R0 R rd cd
  blk : Blk k (ent R)
  det : (det3 (ent R)).natAbs ≤ 2 ^ 20
  rb : ∀ d ∈ rd, DB d
  cb : ∀ d ∈ cd, DB d
section
variable {m w k : Nat} {R0 R : List Row} {rd cd : List Deed} {d : Deed}
theorem deedOk_le {m n : Nat} (h : DeedOk m d) (hm : m ≤ n) : DeedOk n d := by
  cases d with
  | swap i j => exact ⟨Nat.lt_of_lt_of_le h.1 hm, Nat.lt_of_lt_of_le h.2.1 hm, h.2.2⟩
  | turn i => exact Nat.lt_of_lt_of_le h hm
  | add i j q => exact ⟨Nat.lt_of_lt_of_le h.1 hm, Nat.lt_of_lt_of_le h.2.1 hm, h.2.2⟩
theorem St.row (h : St m w k R0 R rd cd) (ok : DeedOk m d) (g : GeD k d) (b : DB d) (hm : m ≤ 3) : St m w k R0 (rowsB R d) (rd ++ [d]) cd := by
  have e : ent (rowsB R d) = entB (ent R) d := funext fun a => funext fun c => ent_rowsB h.led.tab ok a c
  refine ⟨h.led.row ok, by rw [e]; exact h.blk.row g, by rw [e, det_row (deedOk_le ok hm)]; exact h.det, fun x hx => ?_, h.cb⟩
  rcases List.mem_append.mp hx with q | q
  · exact h.rb x q
  · rw [List.mem_singleton.mp q]; exact b
theorem St.col (h : St m w k R0 R rd cd) (ok : DeedOk w d) (g : GeD k d) (b : DB d) (hw : w ≤ 3) : St m w k R0 (colsB R d) rd (cd ++ [d]) := by
  have e := ent_cols h.led.tab ok
  refine ⟨h.led.col ok, by rw [e]; exact (h.blk.tr.row g).tr, by rw [e, det_tr, det_row (deedOk_le ok hw), det_tr]; exact h.det, h.rb, fun x hx => ?_⟩
  rcases List.mem_append.mp hx with q | q
  · exact h.cb x q
  · rw [List.mem_singleton.mp q]; exact b
theorem St.start (t : Tab m w R) (b : Bd 50 R) : St m w 0 R R [] [] := by
  refine ⟨.start t, .start _, ?_, by simp, by simp⟩
  have hm : ∀ a b' c d, (mn (ent R) a b' c d).natAbs ≤ 5000 := fun a b' c d => by
    have h1 := mul_le (b a c) (b b' d)
    have h2 := mul_le (b a d) (b b' c)
    unfold mn
    generalize ent R a c * ent R b' d = u at *
    generalize ent R a d * ent R b' c = v at *
    omega
  have h1 := mul_le (b 0 0) (hm 1 2 1 2)
  have h2 := mul_le (b 0 1) (hm 1 2 0 2)
  have h3 := mul_le (b 0 2) (hm 1 2 0 1)
  unfold det3
  have : (2 : Nat) ^ 20 = 1048576 := by decide
  rw [this]
  generalize ent R 0 0 * _ = u at *
  generalize ent R 0 1 * _ = v at *
  generalize ent R 0 2 * _ = x at *
  omega
/-! ### swaps that may be none -/
def rowsSw (R : List Row) (k i : Nat) : List Row := if k = i then R else rowsB R (.swap k i)
def colsSw (R : List Row) (k i : Nat) : List Row := if k = i then R else colsB R (.swap k i)
theorem sw_self {k a : Nat} : sw k k a = a := by unfold sw; split <;> simp_all
theorem ent_rowsSw {i : Nat} (t : Tab m w R) (hk : k < m) (hi : i < m) : ent (rowsSw R k i) = fun a b => ent R (sw k i a) b := by
  unfold rowsSw
  by_cases e : k = i
  · subst e; rw [if_pos rfl]; funext a b; rw [sw_self]
  · rw [if_neg e]
    funext a b
    rw [ent_rowsB t (d := .swap k i) ⟨hk, hi, e⟩]
    unfold entB sw
    dsimp only
    split <;> (try split) <;> rfl
theorem ent_colsSw {j : Nat} (t : Tab m w R) (hk : k < w) (hj : j < w) : ent (colsSw R k j) = fun a b => ent R a (sw k j b) := by
  unfold colsSw
  by_cases e : k = j
  · subst e; rw [if_pos rfl]; funext a b; rw [sw_self]
  · rw [if_neg e]
    funext a b
    rw [ent_cols t (d := .swap k j) ⟨hk, hj, e⟩]
    unfold tr entB sw
    dsimp only
    split <;> (try split) <;> rfl
theorem tab_rowsSw {i : Nat} (t : Tab m w R) (hk : k < m) (hi : i < m) : Tab m w (rowsSw R k i) := by
  unfold rowsSw
  by_cases e : k = i
  · rw [if_pos e]; exact t
  · rw [if_neg e]; exact t.rowsB ⟨hk, hi, e⟩
theorem tab_colsSw {j : Nat} (t : Tab m w R) : Tab m w (colsSw R k j) := by
  unfold colsSw
  split
  · exact t
  · exact t.colsB _
theorem ent_sw {i j : Nat} (t : Tab m w R) (hk : k < m) (hi : i < m) (hk2 : k < w) (hj : j < w) : ent (colsSw (rowsSw R k i) k j) = swE k i j (ent R) := by
  rw [ent_colsSw (tab_rowsSw t hk hi) hk2 hj, ent_rowsSw t hk hi]; rfl
/-! ### columns between k and b dealt with -/
structure CPart (m w k b : Nat) (R1 R : List Row) : Prop where
  tab : Tab m w R
  ent : ∀ i j, ent R i j = if k < j ∧ j < b then ent R1 i j - (ent R1 k j).fdiv (ent R1 k k) * ent R1 i k else ent R1 i j
theorem CPart.start {R1 : List Row} (h : Tab m w R1) : CPart m w k (k + 1) R1 R1 := ⟨h, fun i j => by rw [if_neg (by omega)]⟩
theorem CPart.skip {b : Nat} {R1 : List Row} (h : CPart m w k b R1 R) (hq : (K94.ent R1 k b).fdiv (K94.ent R1 k k) = 0) : CPart m w k (b + 1) R1 R := ⟨h.tab, fun i j => by
  rw [h.ent]
  by_cases h1 : k < j ∧ j < b
  · rw [if_pos h1, if_pos (by omega)]
  · rw [if_neg h1]
    by_cases h2 : k < j ∧ j < b + 1
    · have : j = b := by omega
      subst this
      rw [if_pos h2, hq]; omega
    · rw [if_neg h2]⟩
theorem CPart.step {b : Nat} {R1 : List Row} (h : CPart m w k b R1 R) (hkb : k < b) (hbw : b < w) : CPart m w k (b + 1) R1 (colsB R (.add b k (0 - (K94.ent R1 k b).fdiv (K94.ent R1 k k)))) := by
  have ok : DeedOk w (.add b k (0 - (K94.ent R1 k b).fdiv (K94.ent R1 k k))) := ⟨hbw, by omega, by omega⟩
  refine ⟨h.tab.colsB _, fun i j => ?_⟩
  rw [ent_cols h.tab ok]
  show (if j = b then K94.ent R i b + _ * K94.ent R i k else K94.ent R i j) = _
  by_cases e : j = b
  · subst e
    rw [if_pos rfl, if_pos (by omega), h.ent i j, if_neg (by omega), h.ent i k, if_neg (by omega)]
    grind
  · rw [if_neg e, h.ent]
    by_cases h1 : k < j ∧ j < b
    · rw [if_pos h1, if_pos (by omega)]
    · rw [if_neg h1, if_neg (by omega)]
theorem clr_of {R2 R3 R4 : List Row} (hp : Part m w k m k R2 R3) (hc : CPart m w k w R3 R4) (blk : Blk k (ent R2)) : Clr m w k (ent R2) (ent R4) := by
  have e3 : ∀ j, ent R3 k j = ent R2 k j := fun j => by rw [hp.ent, if_neg (by omega)]
  have e4 : ∀ i, ent R4 i k = ent R3 i k := fun i => by rw [hc.ent, if_neg (by omega)]
  have c4 : ∀ a, k < a → a < m → ent R4 a k = ent R2 a k - (ent R2 a k).fdiv (ent R2 k k) * ent R2 k k := fun a h1 h2 => by rw [e4, hp.ent, if_pos ⟨h1, h2⟩]
  have r4 : ∀ b, k < b → b < w → ent R4 k b = ent R2 k b - (ent R2 k b).fdiv (ent R2 k k) * ent R2 k k := fun b h1 h2 => by rw [hc.ent, if_pos ⟨h1, h2⟩, e3, e3]
  refine ⟨by rw [e4, e3], fun b h1 h2 => ?_, fun a h1 h2 => ?_, fun a b h1 h2 h3 h4 => ?_, fun a b h => ?_, fun a b h => ?_⟩
  · rw [r4 b h1 h2, Int.fmod_def, Int.mul_comm]
  · rw [c4 a h1 h2, Int.fmod_def, Int.mul_comm]
  · rw [r4 b h3 h4, c4 a h1 h2, hc.ent a b, if_pos ⟨h3, h4⟩, hp.ent a b, if_pos ⟨h1, h2⟩, hp.ent a k, if_pos ⟨h1, h2⟩, e3, e3]
    grind
  · rcases h with h | h
    · exact ent_out1 hc.tab h
    · exact ent_out2 hc.tab h
  · rw [hc.ent, e3, e3]
    by_cases ha : a < k
    · have z : ent R2 a k = 0 := blk.off a k (by omega) (.inl ha)
      have h1 : ent R3 a b = ent R2 a b := by rw [hp.ent a b, if_neg (by omega)]
      have h2 : ent R3 a k = ent R2 a k := by rw [hp.ent a k, if_neg (by omega)]
      rw [h1, h2, z]
      split <;> simp
    · have hb : b < k := by omega
      have z : ent R2 k b = 0 := blk.off k b (by omega) (.inr hb)
      rw [if_neg (by omega), hp.ent a b]
      split
      · rw [z]; simp
      · rfl
/-! ### ends -/
theorem blk_next {E : Mat} (h : Blk k E) (cl : Clean m w k E) (dv : ∀ a b, k < a → a < m → k < b → b < w → E k k ∣ E a b) (out : ∀ a b, m ≤ a ∨ w ≤ b → E a b = 0) (nn : 0 ≤ E k k) : Blk (k + 1) E := by
  have rz : ∀ b, k < b → E k b = 0 := fun b hb => by
    by_cases h1 : b < w
    · exact cl.2 b hb h1
    · exact out k b (.inr (by omega))
  have cz : ∀ a, k < a → E a k = 0 := fun a hb => by
    by_cases h1 : a < m
    · exact cl.1 a hb h1
    · exact out a k (.inl (by omega))
  refine ⟨fun i j n q => ?_, fun i hi => ?_, fun i a b hi ha hb => ?_⟩
  · by_cases q2 : i < k ∨ j < k
    · exact h.off i j n q2
    · by_cases e : i = k
      · subst e; exact rz j (by omega)
      · have : j = k := by omega
        subst this; exact cz i (by omega)
  · by_cases e : i = k
    · subst e; exact nn
    · exact h.nonneg i (by omega)
  · by_cases e : i = k
    · subst e
      by_cases ea : a = i
      · subst ea
        by_cases eb : b = a
        · subst eb; exact Int.dvd_refl _
        · rw [rz b (by omega)]; exact Int.dvd_zero _
      · by_cases eb : b = i
        · subst eb; rw [cz a (by omega)]; exact Int.dvd_zero _
        · by_cases h1 : a < m ∧ b < w
          · exact dv a b (by omega) h1.1 (by omega) h1.2
          · rw [out a b (by omega)]; exact Int.dvd_zero _
    · exact h.dvd i a b (by omega) ha hb
theorem blk_turn {E : Mat} (h : Blk k E) (cl : Clean m w k E) (dv : ∀ a b, k < a → a < m → k < b → b < w → E k k ∣ E a b) (out : ∀ a b, m ≤ a ∨ w ≤ b → E a b = 0) (nn : E k k < 0) : Blk (k + 1) (entB E (.turn k)) := by
  have ek : ∀ b, entB E (.turn k) k b = - E k b := fun b => by unfold entB; dsimp only; rw [if_pos rfl]
  have eo : ∀ a b, a ≠ k → entB E (.turn k) a b = E a b := fun a b ha => by unfold entB; dsimp only; rw [if_neg ha]
  refine blk_next (m := m) (w := w) (h.row (d := .turn k) (Nat.le_refl k)) ⟨fun a h1 h2 => ?_, fun b h1 h2 => ?_⟩ (fun a b h1 h2 h3 h4 => ?_) (fun a b ho => ?_) (by rw [ek]; omega)
  · rw [eo a k (by omega)]; exact cl.1 a h1 h2
  · rw [ek, cl.2 b h1 h2]; rfl
  · rw [ek, eo a b (by omega)]; exact Int.neg_dvd.mpr (dv a b h1 h2 h3 h4)
  · by_cases e : a = k
    · subst e; rw [ek, out a b ho]; rfl
    · rw [eo a b e]; exact out a b ho
theorem blk_zero {E : Mat} (h : Blk k E) (out : ∀ a b, m ≤ a ∨ w ≤ b → E a b = 0) (z : ∀ a b, k ≤ a → a < m → k ≤ b → b < w → E a b = 0) : Blk (k + 1) E := by
  have z' : ∀ a b, k ≤ a → k ≤ b → E a b = 0 := fun a b h1 h2 => by
    by_cases q : a < m ∧ b < w
    · exact z a b h1 q.1 h2 q.2
    · exact out a b (by omega)
  exact blk_next (m := m) (w := w) h ⟨fun a h1 _ => z' a k (by omega) (Nat.le_refl _), fun b h1 _ => z' k b (Nat.le_refl _) (by omega)⟩ (fun a b h1 _ h3 _ => by rw [z' a b (by omega) (by omega)]; exact Int.dvd_zero _) out (by rw [z' k k (Nat.le_refl _) (Nat.le_refl _)]; exact Int.le_refl _)
theorem Blk.diag {m w : Nat} (t : Tab m w R) (h : Blk (min w m) (ent R)) : Diag m w R := by
  have out : ∀ a b, min w m ≤ a → min w m ≤ b → a ≠ b ∨ True → (m ≤ a ∨ w ≤ a) → (w ≤ b ∨ m ≤ b) → True := fun _ _ _ _ _ _ _ => trivial
  refine ⟨fun i j n => ?_, fun k => ?_, fun i j hij hj hj2 => ?_⟩
  · by_cases q : i < min w m ∨ j < min w m
    · exact h.off i j n q
    · by_cases q2 : m ≤ i
      · exact ent_out1 t q2
      · exact ent_out2 t (by omega)
  · by_cases q : k < min w m
    · exact h.nonneg k q
    · by_cases q2 : m ≤ k
      · rw [ent_out1 t q2]; exact Int.le_refl _
      · rw [ent_out2 t (by omega)]; exact Int.le_refl _
  · exact h.dvd i j j (by omega) (by omega) (by omega)
end
end K94

set_option Elab.async false
set_option linter.all false
set_option maxRecDepth 100000
set_option maxHeartbeats 4000000
namespace K94
open PySem PySem.Spec PyProof.Rows L2
section
variable {P : Program} {w : World} {K : PySem.W.Frag} {mg : Str → Option Value} {base : Heap} {T : TabL}
/-! ### a class's defs by name -/
structure Mtd (K : PySem.W.Frag) (C : Addr) (m qual : Str) (st : Stmt) : Prop where
  ex : ∃ (f : Addr) (fd : FuncData), FunD K m qual (defArgs st) (defBody st) (defScope st) [] [] f fd ∧ Cls K C ∧ Meth K C m f
theorem Mtd.met {m qual : Str} {C : Addr} {st : Stmt} {N ps : List Str} {k : Nat} {sp : Sp} (F : Mtd K C m qual st) (S : FnScope N ps (defScope st)) (len : ∀ vs H Q E, sp vs H Q E → vs.length = ps.length)
    (hb : ∀ (kV doc pm : Value) (an : Option Addr) (cdv ct : Value) (us : List Value), us.length = ps.length → bindArgs (PySem.W.fnOf m qual (defArgs st) (defBody st) (defScope st) .none kV doc pm an cdv ct) ⟨us, []⟩ = pure (ps.zip us))
    (hbody : ∀ (f : Addr) (cdv : Value) (A : Around) (outer : List Env) (s : Shared) (H : Hp) (vs : List V) (Q : VK) (E : XK), Room k (A.deeper (envOfC qual (defScope st) s.heap.objs.size f cdv)) → sp vs H Q E →
      ∃ t, PSs (cxOf CX0 P w K mg base N qual (defScope st) f cdv A outer s H E).nox (defBody st) t ∧ t { nx := fun _ H' => Q .non H', rt := Q } (L2.start N vs) H) : C8.Met P w K mg base (k + 1) C m sp [] := by
  obtain ⟨f, fd, F, hc, hm⟩ := F.ex
  refine ⟨f, fd, ps, [], hc, hm, ?_, F.bindsN hb, .nil⟩
  refine F.ok S len fun cdv A outer s H vs Q E hr hsp => ?_
  obtain ⟨t, h, q⟩ := hbody f cdv A outer s H vs Q E hr hsp
  exact ⟨t, h.nox, q⟩
structure Mkd (K : PySem.W.Frag) (mg : Str → Option Value) (C : Addr) (x qual : Str) (st : Stmt) : Prop where
  ex : ∃ (f : Addr) (fd : FuncData), FunD K "__init__" qual (defArgs st) (defBody st) (defScope st) [] [] f fd ∧ Mk K C f ∧ mg x = some (.ref C)
theorem Mkd.mak {x qual : Str} {C : Addr} {st : Stmt} {N ps : List Str} {k : Nat} {sp : Sp} (F : Mkd K mg C x qual st) (S : FnScope N ps (defScope st)) (len : ∀ vs H Q E, sp vs H Q E → vs.length = ps.length)
    (hb : ∀ (kV doc pm : Value) (an : Option Addr) (cdv ct : Value) (us : List Value), us.length = ps.length → bindArgs (PySem.W.fnOf "__init__" qual (defArgs st) (defBody st) (defScope st) .none kV doc pm an cdv ct) ⟨us, []⟩ = pure (ps.zip us))
    (hbody : ∀ (f : Addr) (cdv : Value) (A : Around) (outer : List Env) (s : Shared) (H : Hp) (vs : List V) (Q : VK) (E : XK), Room k (A.deeper (envOfC qual (defScope st) s.heap.objs.size f cdv)) → sp vs H Q E →
      ∃ t, PSs (cxOf CX0 P w K mg base N qual (defScope st) f cdv A outer s H E).nox (defBody st) t ∧ t { nx := fun _ H' => Q .non H', rt := Q } (L2.start N vs) H) : C8.Mak P w K mg base (k + 1) x C sp [] := by
  obtain ⟨f, fd, F, hM, hm⟩ := F.ex
  refine ⟨f, fd, ps, [], hM, ?_, hm, F.bindsN hb, .nil⟩
  refine F.ok S len fun cdv A outer s H vs Q E hr hsp => ?_
  obtain ⟨t, h, q⟩ := hbody f cdv A outer s H vs Q E hr hsp
  exact ⟨t, h.nox, q⟩
/-- the class's fields are its objects' own -/
structure Ldg (K : PySem.W.Frag) (C : Addr) : Prop where
  cls : Cls K C
  wide : NoAttr K C "own_wide"
  rows : NoAttr K C "own_rows"
  rdeeds : NoAttr K C "row_deeds"
  cdeeds : NoAttr K C "column_deeds"
def fsL (w : Nat) (L RD CD : Addr) : List (Str × V) := [("own_wide", .int (w : Int)), ("own_rows", .ref L), ("row_deeds", .ref RD), ("column_deeds", .ref CD)]
theorem fs_wide {w : Nat} {L RD CD : Addr} : (fsL w L RD CD).lookup ("own_wide" : Str) = some (.int (w : Int)) := by rfl
theorem fs_rows {w : Nat} {L RD CD : Addr} : (fsL w L RD CD).lookup ("own_rows" : Str) = some (.ref L) := by rfl
theorem fs_rdeeds {w : Nat} {L RD CD : Addr} : (fsL w L RD CD).lookup ("row_deeds" : Str) = some (.ref RD) := by rfl
theorem fs_cdeeds {w : Nat} {L RD CD : Addr} : (fsL w L RD CD).lookup ("column_deeds" : Str) = some (.ref CD) := by rfl
def OwnRow (H : Hp) (a : Addr) (r : Row) : Prop := H a = some (.lst (r.map V.int))
/-- an object of the class, its lists its own; H0: the heap that stays -/
structure Lead (T : TabL) (K : PySem.W.Frag) (C : Addr) (H0 H : Hp) (O dx L RD CD : Addr) (as das cas : List Addr) (w : Nat) (R : List Row) (rd cd : List Deed) : Prop where
  ins : H O = some (.ins C dx (fsL w L RD CD))
  hL : H L = some (.lst (as.map V.ref))
  hRD : H RD = some (.lst (das.map V.ref))
  hCD : H CD = some (.lst (cas.map V.ref))
  rows : All2 (OwnRow H) as R
  rds : DeedsAt K H das rd
  cds : DeedsAt K H cas cd
  nd : (L :: RD :: CD :: as).Nodup
  fr : ∀ x ∈ L :: RD :: CD :: as, Fr0 H0 x
  ex : Ex T H0 H
def LeadAt (T : TabL) (K : PySem.W.Frag) (C : Addr) (H0 H : Hp) (O : Addr) (w : Nat) (R : List Row) (rd cd : List Deed) : Prop := ∃ dx L RD CD as das cas, Lead T K C H0 H O dx L RD CD as das cas w R rd cd
/-- tuples stay -/
def Tups (K : PySem.W.Frag) (H H' : Hp) : Prop := ∀ a xs, SqT K H a xs → SqT K H' a xs
section
variable {C O dx L RD CD a p : Addr} {H0 H H' : Hp} {as das cas : List Addr} {R : List Row} {rd cd : List Deed} {l l2 : List V}
theorem Tups.refl (H : Hp) : Tups K H H := fun _ _ h => h
theorem Tups.trans {H1 H2 H3 : Hp} (h : Tups K H1 H2) (h' : Tups K H2 H3) : Tups K H1 H3 := fun a xs q => h' a xs (h a xs q)
theorem Ex.tups (x : Ex T H H') : Tups K H H' := fun a xs q => x.sqT q
theorem tups_upd (hp : H p = some (.lst l)) : Tups K H (upd H p (.lst l2)) := fun a xs q => sqT_upd q hp
theorem Lead.mono {w : Nat} (h : Lead T K C H0 H O dx L RD CD as das cas w R rd cd) (x : Ex T H H') : Lead T K C H0 H' O dx L RD CD as das cas w R rd cd :=
  ⟨x.ext _ _ h.ins fun _ => HO.noConfusion, x.lst h.hL, x.lst h.hRD, x.lst h.hCD, h.rows.imp fun a r q => x.lst q, h.rds.imp fun a d q => x.sqT q, h.cds.imp fun a d q => x.sqT q, h.nd, h.fr, h.ex.trans x⟩
theorem LeadAt.mono {w : Nat} (h : LeadAt T K C H0 H O w R rd cd) (x : Ex T H H') : LeadAt T K C H0 H' O w R rd cd := by
  obtain ⟨_, _, _, _, _, _, _, q⟩ := h
  exact ⟨_, _, _, _, _, _, _, q.mono x⟩
end
section
variable {C O dx L RD CD a b p c : Addr} {H0 H H' : Hp} {as das cas : List Addr} {R : List Row} {rd cd : List Deed} {l l2 : List V} {w i j : Nat} {r : Row} {d : Deed}
theorem Lead.neO (h : Lead T K C H0 H O dx L RD CD as das cas w R rd cd) (hp : H p = some (.lst l)) : O ≠ p := ne_of h.ins hp (by simp)
theorem Lead.memFr (h : Lead T K C H0 H O dx L RD CD as das cas w R rd cd) (hp : p ∈ L :: RD :: CD :: as) : Fr0 H0 p := h.fr p hp
theorem deeds_upd {ds : List Deed} {das : List Addr} (h : DeedsAt K H das ds) (hp : H p = some (.lst l)) : DeedsAt K (upd H p (.lst l2)) das ds := h.imp fun _ _ q => sqT_upd q hp
theorem Lead.nds (h : Lead T K C H0 H O dx L RD CD as das cas w R rd cd) : L ≠ RD ∧ L ≠ CD ∧ RD ≠ CD ∧ L ∉ as ∧ RD ∉ as ∧ CD ∉ as ∧ as.Nodup := by
  have h1 := List.nodup_cons.mp h.nd
  have h2 := List.nodup_cons.mp h1.2
  have h3 := List.nodup_cons.mp h2.2
  have g1 : L ∉ RD :: CD :: as := h1.1
  have g2 : RD ∉ CD :: as := h2.1
  simp only [List.mem_cons, not_or] at g1 g2
  exact ⟨g1.1, g1.2.1, g2.1, g1.2.2, g2.2, h3.1, h3.2⟩
theorem own_upd {as : List Addr} {R : List Row} (h : All2 (OwnRow H) as R) {o : HO} : p ∉ as → All2 (OwnRow (upd H p o)) as R := by
  induction h with
  | nil => exact fun _ => .nil
  | cons q t ih =>
    intro n
    simp only [List.mem_cons, not_or] at n
    exact .cons (by unfold OwnRow; rw [upd_ne (Ne.symm n.1)]; exact q) (ih n.2)
theorem Lead.pushR (h : Lead T K C H0 H O dx L RD CD as das cas w R rd cd) (hb : DeedAt K H b d) : Lead T K C H0 (upd H RD (.lst (das.map V.ref ++ [.ref b]))) O dx L RD CD as (das ++ [b]) cas w R (rd ++ [d]) cd := by
  obtain ⟨n1, n2, n3, n4, n5, n6, n7⟩ := h.nds
  refine ⟨?_, ?_, ?_, ?_, own_upd h.rows n5, deeds_upd (All2.snoc hb h.rds) h.hRD, deeds_upd h.cds h.hRD, h.nd, h.fr, h.ex.mut0 (h.fr RD (by simp)) h.hRD (plain_lst _)⟩
  · rw [upd_ne (h.neO h.hRD)]; exact h.ins
  · rw [upd_ne n1]; exact h.hL
  · rw [List.map_append]; exact upd_same
  · rw [upd_ne (Ne.symm n3)]; exact h.hCD
theorem Lead.pushC (h : Lead T K C H0 H O dx L RD CD as das cas w R rd cd) (hb : DeedAt K H b d) : Lead T K C H0 (upd H CD (.lst (cas.map V.ref ++ [.ref b]))) O dx L RD CD as das (cas ++ [b]) w R rd (cd ++ [d]) := by
  obtain ⟨n1, n2, n3, n4, n5, n6, n7⟩ := h.nds
  refine ⟨?_, ?_, ?_, ?_, own_upd h.rows n6, deeds_upd h.rds h.hCD, deeds_upd (All2.snoc hb h.cds) h.hCD, h.nd, h.fr, h.ex.mut0 (h.fr CD (by simp)) h.hCD (plain_lst _)⟩
  · rw [upd_ne (h.neO h.hCD)]; exact h.ins
  · rw [upd_ne n2]; exact h.hL
  · rw [upd_ne n3]; exact h.hRD
  · rw [List.map_append]; exact upd_same
theorem own_at (h : Lead T K C H0 H O dx L RD CD as das cas w R rd cd) (hi : i < R.length) : ∃ a, as[i]? = some a ∧ (as.map V.ref)[i]? = some (.ref a) ∧ OwnRow H a (R.getD i []) := by
  have : R[i]? = some (R.getD i []) := by simp [hi]
  obtain ⟨a, ha, hr⟩ := h.rows.get' this
  exact ⟨a, ha, by rw [List.getElem?_map, ha]; rfl, hr⟩
/-- a row that is a new list -/
theorem Lead.newRow (h : Lead T K C H0 H O dx L RD CD as das cas w R rd cd) (hp : OwnRow H p r) (hf : Fr0 H0 p) (hn : p ∉ L :: RD :: CD :: as) (i : Nat) : Lead T K C H0 (upd H L (.lst ((as.map V.ref).set i (.ref p)))) O dx L RD CD (as.set i p) das cas w (R.set i r) rd cd := by
  obtain ⟨n1, n2, n3, n4, n5, n6, n7⟩ := h.nds
  simp only [List.mem_cons, not_or] at hn
  obtain ⟨m1, m2, m3, m4⟩ := hn
  have ms : ∀ x, x ∈ as.set i p → x = p ∨ x ∈ as := fun x hx => (List.mem_or_eq_of_mem_set hx).elim .inr .inl
  have nset : (as.set i p).Nodup := by
    have key : ∀ (as : List Addr) (i : Nat), as.Nodup → p ∉ as → (as.set i p).Nodup := by
      intro as
      induction as with
      | nil => intro i _ _; simp
      | cons a as ih =>
        intro i hnd hp
        have g := List.nodup_cons.mp hnd
        simp only [List.mem_cons, not_or] at hp
        cases i with
        | zero => exact List.nodup_cons.mpr ⟨hp.2, g.2⟩
        | succ i => exact List.nodup_cons.mpr ⟨fun q => by
            rcases List.mem_or_eq_of_mem_set q with q | q
            · exact g.1 q
            · exact hp.1 q.symm, ih i g.2 hp.2⟩
    exact key as i n7 m4
  have hpL : OwnRow (upd H L (.lst ((as.map V.ref).set i (.ref p)))) p r := by unfold OwnRow; rw [upd_ne (Ne.symm (Ne.symm m1))]; exact hp
  refine ⟨?_, ?_, ?_, ?_, All2.set hpL i (own_upd h.rows n4), deeds_upd h.rds h.hL, deeds_upd h.cds h.hL, ?_, fun x hx => ?_, h.ex.mut0 (h.fr L (by simp)) h.hL (plain_lst _)⟩
  · rw [upd_ne (h.neO h.hL)]; exact h.ins
  · rw [List.map_set]; exact upd_same
  · rw [upd_ne (Ne.symm n1)]; exact h.hRD
  · rw [upd_ne (Ne.symm n2)]; exact h.hCD
  · refine List.nodup_cons.mpr ⟨?_, List.nodup_cons.mpr ⟨?_, List.nodup_cons.mpr ⟨fun q => ?_, nset⟩⟩⟩
    · simp only [List.mem_cons, not_or]
      exact ⟨n1, n2, fun q => (ms _ q).elim (fun e => m1 e.symm) n4⟩
    · simp only [List.mem_cons, not_or]
      exact ⟨n3, fun q => (ms _ q).elim (fun e => m2 e.symm) n5⟩
    · exact (ms _ q).elim (fun e => m3 e.symm) n6
  · simp only [List.mem_cons] at hx
    rcases hx with rfl | rfl | rfl | hx
    · exact h.fr _ (by simp)
    · exact h.fr _ (by simp)
    · exact h.fr _ (by simp)
    · rcases ms x hx with rfl | q
      · exact hf
      · exact h.fr x (by simp [q])
/-- a row changed where it lies -/
theorem Lead.putRow (h : Lead T K C H0 H O dx L RD CD as das cas w R rd cd) (ha : as[i]? = some a) : Lead T K C H0 (upd H a (.lst (r.map V.int))) O dx L RD CD as das cas w (R.set i r) rd cd := by
  obtain ⟨n1, n2, n3, n4, n5, n6, n7⟩ := h.nds
  have hm := List.mem_of_getElem? ha
  obtain ⟨r0, _, hr0⟩ := h.rows.get ha
  have hr0 : H a = some (.lst (r0.map V.int)) := hr0
  have nL : L ≠ a := fun e => n4 (e ▸ hm)
  have nR : RD ≠ a := fun e => n5 (e ▸ hm)
  have nC : CD ≠ a := fun e => n6 (e ▸ hm)
  have key : ∀ (as : List Addr) (R : List Row) (i : Nat), as.Nodup → All2 (OwnRow H) as R → as[i]? = some a → All2 (OwnRow (upd H a (.lst (r.map V.int)))) as (R.set i r) := by
    intro as R i nd q
    induction q generalizing i with
    | nil => intro e; simp at e
    | @cons x y as R q t ih =>
      intro e
      have g := List.nodup_cons.mp nd
      cases i with
      | zero =>
        have : x = a := by simpa using e
        subst this
        exact .cons upd_same (own_upd t g.1)
      | succ i =>
        have e : as[i]? = some a := by simpa using e
        have nx : x ≠ a := fun z => g.1 (z ▸ List.mem_of_getElem? e)
        exact .cons (by unfold OwnRow; rw [upd_ne nx]; exact q) (ih i g.2 e)
  refine ⟨?_, ?_, ?_, ?_, key as R i n7 h.rows ha, deeds_upd h.rds hr0, deeds_upd h.cds hr0, h.nd, h.fr, h.ex.mut0 (h.fr a (by simp [hm])) hr0 (plain_lst _)⟩
  · rw [upd_ne (h.neO hr0)]; exact h.ins
  · rw [upd_ne nL]; exact h.hL
  · rw [upd_ne nR]; exact h.hRD
  · rw [upd_ne nC]; exact h.hCD
theorem set_same : ∀ (l : List Addr) {i : Nat} {x : Addr}, l[i]? = some x → l.set i x = l
  | [], _, _, h => by simp at h
  | y :: l, 0, x, h => by
    have : y = x := by simpa using h
    rw [this]; rfl
  | y :: l, i + 1, x, h => by
    have h : l[i]? = some x := by simpa using h
    show y :: l.set i x = _
    rw [set_same l h]
theorem perm_swap {x y : Addr} : ∀ (l : List Addr) {i j : Nat}, i < j → l[i]? = some x → l[j]? = some y → ((l.set i y).set j x).Perm l
  | [], _, _, _, h, _ => by simp at h
  | z :: l, 0, j + 1, _, h1, h2 => by
    have e : z = x := by simpa using h1
    subst e
    have h2 : l[j]? = some y := by simpa using h2
    show (y :: l.set j z).Perm (z :: l)
    -- y and z change places
    have key : ∀ (l : List Addr) (j : Nat), l[j]? = some y → (y :: l.set j z).Perm (z :: l) := by
      intro l
      induction l with
      | nil => intro j h; simp at h
      | cons a l ih =>
        intro j h
        cases j with
        | zero =>
          have : a = y := by simpa using h
          subst this
          exact .swap z a l
        | succ j =>
          have h : l[j]? = some y := by simpa using h
          show (y :: a :: l.set j z).Perm (z :: a :: l)
          exact (List.Perm.swap a y _).trans (((ih j h).cons a).trans (.swap z a l))
    exact key l j h2
  | z :: l, i + 1, j + 1, hij, h1, h2 => by
    have h1 : l[i]? = some x := by simpa using h1
    have h2 : l[j]? = some y := by simpa using h2
    exact (perm_swap l (by omega) h1 h2).cons z
theorem set_comm' (l : List Addr) {i j : Nat} (h : i ≠ j) (x y : Addr) : (l.set i x).set j y = (l.set j y).set i x := List.set_comm _ _ h
theorem perm_swap2 {x y : Addr} (l : List Addr) {i j : Nat} (hij : i ≠ j) (h1 : l[i]? = some x) (h2 : l[j]? = some y) : ((l.set i y).set j x).Perm l := by
  rcases Nat.lt_or_gt_of_ne hij with h | h
  · exact perm_swap l h h1 h2
  · rw [set_comm' l hij]; exact perm_swap l h h2 h1
theorem Lead.swapR {c2 : Addr} (h : Lead T K C H0 H O dx L RD CD as das cas w R rd cd) (hij : i ≠ j) (h1 : as[i]? = some c) (h2 : as[j]? = some c2) (o1 : OwnRow H c (R.getD i [])) (o2 : OwnRow H c2 (R.getD j [])) :
    Lead T K C H0 (upd H L (.lst (((as.map V.ref).set i (.ref c2)).set j (.ref c)))) O dx L RD CD ((as.set i c2).set j c) das cas w (rowsB R (.swap i j)) rd cd := by
  obtain ⟨n1, n2, n3, n4, n5, n6, n7⟩ := h.nds
  have pm := perm_swap2 as hij h1 h2
  have up : ∀ {x : Addr} {r : Row}, x ≠ L → OwnRow H x r → OwnRow (upd H L (.lst (((as.map V.ref).set i (.ref c2)).set j (.ref c)))) x r := fun n q => by unfold OwnRow; rw [upd_ne n]; exact q
  have mc : c ≠ L := fun e => n4 (e ▸ List.mem_of_getElem? h1)
  have mc2 : c2 ≠ L := fun e => n4 (e ▸ List.mem_of_getElem? h2)
  refine ⟨?_, ?_, ?_, ?_, All2.set (up mc o1) j (All2.set (up mc2 o2) i (own_upd h.rows n4)), deeds_upd h.rds h.hL, deeds_upd h.cds h.hL, ?_, fun x hx => ?_, h.ex.mut0 (h.fr L (by simp)) h.hL (plain_lst _)⟩
  · rw [upd_ne (h.neO h.hL)]; exact h.ins
  · rw [List.map_set, List.map_set]; exact upd_same
  · rw [upd_ne (Ne.symm n1)]; exact h.hRD
  · rw [upd_ne (Ne.symm n2)]; exact h.hCD
  · exact (((pm.cons CD).cons RD).cons L).nodup_iff.mpr h.nd
  · exact h.fr x ((((pm.cons CD).cons RD).cons L).mem_iff.mp hx)
end
end
end K94

set_option Elab.async false
set_option linter.all false
set_option maxRecDepth 100000
set_option maxHeartbeats 4000000
namespace K94
open PySem PySem.Spec PyProof.Rows L2
section
variable {P : Program} {w : World} {K : PySem.W.Frag} {mg : Str → Option Value} {base : Heap} {T : TabL}
/-! ### the methods that change rows -/
def spSwapR (T : TabL) (K : PySem.W.Frag) (C : Addr) : Sp := fun vs H Q _ => ∃ (H0 : Hp) (O : Addr) (m w i j : Nat) (R : List Row) (rd cd : List Deed), vs = [.ref O, .int (i : Int), .int (j : Int)] ∧ LeadAt T K C H0 H O w R rd cd ∧ Tab m w R ∧ i < m ∧ j < m ∧ rd.length < 900000 ∧
  ∀ H', LeadAt T K C H0 H' O w (rowsSw R i j) (if i = j then rd else rd ++ [.swap i j]) cd → Tups K H H' → Q .non H'
theorem sc_Leading_swap_rows : FnScope ["self", "i", "j", "first"] ["self", "i", "j"] (defScope s_Leading_swap_rows) := ⟨rfl, rfl, rfl, by decide +kernel, rfl, by decide +kernel, by decide +kernel⟩
theorem ok_Leading_swap_rows {C : Addr} (F : Mtd K C "swap_rows" "Leading.swap_rows" s_Leading_swap_rows) (B : Bi mg) (G : Ldg K C) : C8.Met P w K mg base 1 C "swap_rows" (spSwapR T K C) [] := by
  refine F.met sc_Leading_swap_rows (fun vs H Q E h => ?_) (fun _ _ _ _ _ _ us hl => match us, hl with | [_, _, _], _ => rfl) (fun f cdv A outer s H vs Q E hr h => ?_)
  · obtain ⟨H0, O, m, w', i, j, R, rd, cd, rfl, _⟩ := h
    rfl
  obtain ⟨H0, O, m, w', i, j, R, rd, cd, rfl, hl, tab, hi, hj, hz, k⟩ := h
  refine ⟨_,
  (pss_one (ps_if (pt_cmpR op_ne (pv 1) (pv 2) (nomark _))
    (pss_cons (ps_set (i := 3) sc_Leading_swap_rows.nd rfl (by first | exact Or.inl rfl | exact Or.inr rfl) (pe_ix (ix_l K) (pe_fldK K rfl (pv 0)) (pv 1) (fun _ _ => rfl)))
    (pss_cons (ps_asg (pe_ix (ix_l K) (pe_fldK K rfl (pv 0)) (pv 2) (fun _ _ => rfl)) (pg_sub (pe_fldK K rfl (pv 0)) (pv 1) set_list))
    (pss_cons (ps_asg (pv 3) (pg_sub (pe_fldK K rfl (pv 0)) (pv 2) set_list))
    (pss_one (ps_expr (pe_bm PySem.F.plainAttrs_list PySem.F.slot_list_append PySem.F.type_list_append mt_append (pe_fldK K rfl (pv 0)) (pa_cons (pe_tup (pa_cons pe_str (pa_cons (pv 1) (pa_cons (pv 2) pa_nil)))) pa_nil)))))))
    pss_nil)), ?_⟩
  obtain ⟨dx, L, RD, CD, as, das, cas, l⟩ := id hl
  have hlen : as.length = R.length := l.rows.length
  have hm := tab.len
  obtain ⟨c, hc, hc', oc⟩ := own_at l (i := i) (by omega)
  obtain ⟨c2, hc2, hc2', oc2⟩ := own_at l (i := j) (by omega)
  refine ⟨_, rfl, _, rfl, rfl, _, rfl, ?_⟩
  rw [vne]
  by_cases e : i = j
  · subst e
    rw [show decide ((i : Int) ≠ (i : Int)) = false by simp]
    refine iteF (k H ?_ (Tups.refl H))
    unfold rowsSw
    rw [if_pos rfl, if_pos rfl]; exact hl
  rw [show decide ((i : Int) ≠ (j : Int)) = true from decide_eq_true (by omega)]
  refine iteT ?_
  refine ⟨_, rfl, O, C, dx, _, _, rfl, l.ins, G.cls, G.rows, fs_rows, _, rfl, L, _, _, i, _, rfl, rfl, .of l.hL, rfl, hc', ?_⟩
  dsimp only [gName]
  refine ⟨_, rfl, O, C, dx, _, _, rfl, l.ins, G.cls, G.rows, fs_rows, _, rfl, L, _, _, j, _, rfl, rfl, .of l.hL, rfl, hc2', ?_⟩
  refine ⟨_, rfl, O, C, dx, _, _, rfl, l.ins, G.cls, G.rows, fs_rows, _, rfl, L, _, _, i, rfl, rfl, l.hL, ixN_nat (by rw [List.length_map]; omega), ?_⟩
  have nO := l.neO l.hL
  have ins1 : upd H L (.lst ((as.map V.ref).set i (.ref c2))) O = some (.ins C dx (fsL w' L RD CD)) := by rw [upd_ne nO]; exact l.ins
  refine ⟨_, rfl, _, rfl, O, C, dx, _, _, rfl, ins1, G.cls, G.rows, fs_rows, _, rfl, L, _, _, j, rfl, rfl, upd_same, ixN_nat (by rw [List.length_set, List.length_map]; omega), ?_⟩
  rw [upd_upd]
  have l2 := l.swapR e hc hc2 oc oc2
  have t2 : Tups K H (upd H L (.lst (((as.map V.ref).set i (.ref c2)).set j (.ref c)))) := tups_upd l.hL
  generalize upd H L (.lst (((as.map V.ref).set i (.ref c2)).set j (.ref c))) = H2 at *
  refine ⟨_, rfl, O, C, dx, _, _, rfl, l2.ins, G.cls, G.rdeeds, fs_rdeeds, .inl ⟨rfl, _, .inl (.inl l2.hRD)⟩, _, rfl, _, rfl, by show 3 ≤ _; decide, fun b hb => ?_⟩
  have e3 : Ex T H2 (upd H2 b (.tup [.str "swap", .int (i : Int), .int (j : Int)])) := .new hb
  have l3 := l2.mono e3
  refine ⟨RD, _, _, rfl, rfl, l3.hRD, szm (by rw [List.length_map, l3.rds.length]; omega), ?_⟩
  have l4 := l3.pushR (b := b) (d := .swap i j) (sqT_of upd_same)
  refine k _ ?_ ((t2.trans e3.tups).trans (tups_upd l3.hRD))
  unfold rowsSw
  rw [if_neg e, if_neg e]
  exact ⟨_, _, _, _, _, _, _, l4⟩
/-! ### the methods that change columns -/
def preC (R : List Row) (d : Deed) : Nat → List Row
  | 0 => R
  | t + 1 => (preC R d t).set t (colRow ((preC R d t).getD t []) d)
theorem preC_len (R : List Row) (d : Deed) : ∀ t, (preC R d t).length = R.length
  | 0 => rfl
  | t + 1 => by unfold preC; rw [List.length_set]; exact preC_len R d t
theorem preC_get (R : List Row) (d : Deed) : ∀ t i, (preC R d t)[i]? = if i < t then R[i]?.map (fun r => colRow r d) else R[i]?
  | 0, i => by rw [if_neg (by omega)]; rfl
  | t + 1, i => by
    have e1 : (preC R d t).getD t [] = (R[t]?).getD [] := by rw [List.getD_eq_getElem?_getD, preC_get R d t t, if_neg (by omega)]
    show ((preC R d t).set t (colRow ((preC R d t).getD t []) d))[i]? = _
    rw [e1, List.getElem?_set, preC_len]
    by_cases e : t = i
    · subst e
      rw [if_pos rfl]
      by_cases h : t < R.length
      · rw [if_pos h, if_pos (Nat.lt_succ_self t), List.getElem?_eq_getElem h]; rfl
      · rw [if_neg h, if_pos (Nat.lt_succ_self t), List.getElem?_eq_none (by omega)]; rfl
    · rw [if_neg e, preC_get R d t i]
      by_cases h : i < t
      · rw [if_pos h, if_pos (by omega)]
      · rw [if_neg h, if_neg (by omega)]
theorem preC_all (R : List Row) (d : Deed) : preC R d R.length = colsB R d := by
  refine List.ext_getElem? fun i => ?_
  unfold colsB
  rw [preC_get, List.getElem?_map]
  by_cases h : i < R.length
  · rw [if_pos h]
  · rw [if_neg h, List.getElem?_eq_none (by omega)]; rfl
def spSwapC (T : TabL) (K : PySem.W.Frag) (C : Addr) : Sp := fun vs H Q _ => ∃ (H0 : Hp) (O : Addr) (m w i j : Nat) (R : List Row) (rd cd : List Deed), vs = [.ref O, .int (i : Int), .int (j : Int)] ∧ LeadAt T K C H0 H O w R rd cd ∧ Tab m w R ∧ m ≤ 1000 ∧ i < w ∧ j < w ∧ cd.length < 900000 ∧
  ∀ H', LeadAt T K C H0 H' O w (colsSw R i j) rd (if i = j then cd else cd ++ [.swap i j]) → Tups K H H' → Q .non H'
theorem sc_Leading_swap_columns : FnScope ["self", "i", "j", "row", "first"] ["self", "i", "j"] (defScope s_Leading_swap_columns) := ⟨rfl, rfl, rfl, by decide +kernel, rfl, by decide +kernel, by decide +kernel⟩
theorem ok_Leading_swap_columns {C : Addr} (F : Mtd K C "swap_columns" "Leading.swap_columns" s_Leading_swap_columns) (B : Bi mg) (G : Ldg K C) : C8.Met P w K mg base 1 C "swap_columns" (spSwapC T K C) [] := by
  refine F.met sc_Leading_swap_columns (fun vs H Q E h => ?_) (fun _ _ _ _ _ _ us hl => match us, hl with | [_, _, _], _ => rfl) (fun f cdv A outer s H vs Q E hr h => ?_)
  · obtain ⟨H0, O, m, w', i, j, R, rd, cd, rfl, _⟩ := h
    rfl
  obtain ⟨H0, O, m, w', i, j, R, rd, cd, rfl, hl, tab, hmm, hi, hj, hz, k⟩ := h
  refine ⟨_,
  (pss_one (ps_if (pt_cmpR op_ne (pv 1) (pv 2) (nomark _))
    (pss_cons (ps_for PassesOwn.never rfl (pi_lK K rfl (pe_fldK K rfl (pv 0))) (pg_name (i := 3) sc_Leading_swap_columns.nd rfl (by first | exact Or.inl rfl | exact Or.inr rfl))
      (pss_cons (ps_set (i := 4) sc_Leading_swap_columns.nd rfl (by first | exact Or.inl rfl | exact Or.inr rfl) (pe_ix (ix_lrow K) (pv 3) (pv 1) (fun _ _ => rfl)))
      (pss_cons (ps_asg (pe_ix (ix_lrow K) (pv 3) (pv 2) (fun _ _ => rfl)) (pg_sub (pv 3) (pv 1) set_list))
      (pss_one (ps_asg (pv 4) (pg_sub (pv 3) (pv 2) set_list))))))
    (pss_one (ps_expr (pe_bm PySem.F.plainAttrs_list PySem.F.slot_list_append PySem.F.type_list_append mt_append (pe_fldK K rfl (pv 0)) (pa_cons (pe_tup (pa_cons pe_str (pa_cons (pv 1) (pa_cons (pv 2) pa_nil)))) pa_nil)))))
    pss_nil)), ?_⟩
  refine ⟨_, rfl, _, rfl, rfl, _, rfl, ?_⟩
  rw [vne]
  by_cases e : i = j
  · subst e
    rw [show decide ((i : Int) ≠ (i : Int)) = false by simp]
    refine iteF (k H ?_ (Tups.refl H))
    unfold colsSw
    rw [if_pos rfl, if_pos rfl]; exact hl
  rw [show decide ((i : Int) ≠ (j : Int)) = true from decide_eq_true (by omega)]
  refine iteT ?_
  obtain ⟨dx, L, RD, CD, as, das, cas, l⟩ := id hl
  have hlen : as.length = R.length := l.rows.length
  have hm := tab.len
  refine ⟨_, rfl, O, C, dx, _, _, rfl, l.ins, G.cls, G.rows, fs_rows, L, rfl, ⟨_, .of l.hL⟩, for_it walk_list (fun t σ H' => ∃ (u3 u4 : Option V), Lead T K C H0 H' O dx L RD CD as das cas w' (preC R (.swap i j) t) rd cd ∧ Tups K H H' ∧ σ = [some (.ref O), some (.int (i : Int)), some (.int (j : Int)), u3, u4])
    ⟨_, _, l, Tups.refl H, rfl⟩ (fun t σ H' _ h => by obtain ⟨_, _, l, _⟩ := h; exact .of l.hL) ?_ ?_⟩
  · rintro t x σ H2 H3 ht ⟨u3, u4, l2, tp, rfl⟩ ⟨rfl, hx⟩
    have ht' : t < R.length := by rw [List.length_map] at ht; omega
    obtain ⟨a, ha, rfl⟩ := ref_get hx
    have pl : t < (preC R (.swap i j) t).length := by rw [preC_len]; exact ht'
    obtain ⟨a', ha', _, oa⟩ := own_at l2 pl
    rw [ha] at ha'
    cases ha'
    have er : (preC R (.swap i j) t).getD t [] = R.getD t [] := by rw [List.getD_eq_getElem?_getD, preC_get, if_neg (by omega), List.getD_eq_getElem?_getD]
    rw [er] at oa
    have rl := getD_len tab (i := t) (by omega)
    have oa : H3 a = some (.lst ((R.getD t []).map V.int)) := oa
    refine ⟨_, rfl, _, rfl, a, R.getD t [], _, i, rfl, rfl, .of oa, rfl, by omega, ?_⟩
    dsimp only [gName]
    refine ⟨_, rfl, _, rfl, a, R.getD t [], _, j, rfl, rfl, .of oa, rfl, by omega, ?_⟩
    refine ⟨_, rfl, _, rfl, a, _, _, i, rfl, rfl, oa, ixN_nat (by rw [List.length_map]; omega), ?_⟩
    refine ⟨_, rfl, _, rfl, _, rfl, a, _, _, j, rfl, rfl, upd_same, ixN_nat (by rw [List.length_set, List.length_map]; omega), ?_⟩
    rw [upd_upd]
    have ev : (((R.getD t []).map V.int).set i (V.int (rf (R.getD t []) j))).set j (V.int (rf (R.getD t []) i)) = (colRow (R.getD t []) (.swap i j)).map V.int := by
      show _ = (((R.getD t []).set i (rf (R.getD t []) j)).set j (rf (R.getD t []) i)).map V.int
      rw [List.map_set, List.map_set]
    rw [ev]
    refine ⟨_, _, ?_, tp.trans (tups_upd oa), rfl⟩
    have := l2.putRow (r := colRow (R.getD t []) (.swap i j)) ha
    show Lead T K C H0 _ O dx L RD CD as das cas w' ((preC R (.swap i j) t).set t (colRow ((preC R (.swap i j) t).getD t []) (.swap i j))) rd cd
    rw [er]; exact this
  · rintro σ H2 ⟨u3, u4, l2, tp, rfl⟩
    have l2 : Lead T K C H0 H2 O dx L RD CD as das cas w' (colsB R (.swap i j)) rd cd := by
      rw [List.length_map, hlen, preC_all] at l2; exact l2
    refine ⟨_, rfl, O, C, dx, _, _, rfl, l2.ins, G.cls, G.cdeeds, fs_cdeeds, .inl ⟨rfl, _, .inl (.inl l2.hCD)⟩, _, rfl, _, rfl, by show 3 ≤ _; decide, fun b hb => ?_⟩
    have e3 : Ex T H2 (upd H2 b (.tup [.str "swap", .int (i : Int), .int (j : Int)])) := .new hb
    have l3 := l2.mono e3
    refine ⟨CD, _, _, rfl, rfl, l3.hCD, szm (by rw [List.length_map, l3.cds.length]; omega), ?_⟩
    have l4 := l3.pushC (b := b) (d := .swap i j) (sqT_of upd_same)
    refine k _ ?_ ((tp.trans e3.tups).trans (tups_upd l3.hCD))
    unfold colsSw
    rw [if_neg e, if_neg e]
    exact ⟨_, _, _, _, _, _, _, l4⟩
/-! ### adding -/
def rowsAd (R : List Row) (i j : Nat) (q : Int) : List Row := if q = 0 then R else rowsB R (.add i j q)
def colsAd (R : List Row) (i j : Nat) (q : Int) : List Row := if q = 0 then R else colsB R (.add i j q)
def dsAd (ds : List Deed) (i j : Nat) (q : Int) : List Deed := if q = 0 then ds else ds ++ [.add i j q]
def spAddR (T : TabL) (K : PySem.W.Frag) (C : Addr) : Sp := fun vs H Q _ => ∃ (H0 : Hp) (O : Addr) (m w i j : Nat) (q : Int) (R : List Row) (rd cd : List Deed), vs = [.ref O, .int (i : Int), .int (j : Int), .int q] ∧ LeadAt T K C H0 H O w R rd cd ∧ Tab m w R ∧ i < m ∧ j < m ∧ w ≤ 1000 ∧ MulD R (.add i j q) ∧ rd.length < 900000 ∧
  ∀ H', LeadAt T K C H0 H' O w (rowsAd R i j q) (dsAd rd i j q) cd → Tups K H H' → Q .non H'
theorem sc_Leading_add_row : FnScope ["self", "i", "j", "often", "one", "other"] ["self", "i", "j", "often"] (defScope s_Leading_add_row) := ⟨rfl, rfl, rfl, by decide +kernel, rfl, by decide +kernel, by decide +kernel⟩
theorem ok_Leading_add_row {C : Addr} (F : Mtd K C "add_row" "Leading.add_row" s_Leading_add_row) (B : Bi mg) (G : Ldg K C) : C8.Met P w K mg base 1 C "add_row" (spAddR T K C) [] := by
  refine F.met sc_Leading_add_row (fun vs H Q E h => ?_) (fun _ _ _ _ _ _ us hl => match us, hl with | [_, _, _, _], _ => rfl) (fun f cdv A outer s H vs Q E hr h => ?_)
  · obtain ⟨H0, O, m, w', i, j, q, R, rd, cd, rfl, _⟩ := h
    rfl
  obtain ⟨H0, O, m, w', i, j, q, R, rd, cd, rfl, hl, tab, hi, hj, hw, hmul, hz, k⟩ := h
  refine ⟨_,
  (pss_one (ps_if (pt_cmpR op_ne (pv 3) pe_int (nomark _))
    (pss_cons (ps_asg (pe_lc (own := [("one", 4), ("other", 5)]) (by rfl) sc_Leading_add_row.nd (pi_zK K rfl (by rfl) B.zip (pa_cons (pe_ix (ix_l K) (pe_fldK K rfl (pv 0)) (pv 1) (fun _ _ => rfl)) (pa_cons (pe_ix (ix_l K) (pe_fldK K rfl (pv 0)) (pv 2) (fun _ _ => rfl)) pa_nil))) (blkOk_by (own := [("one", 4), ("other", 5)]) (N := ["self", "i", "j", "often", "one", "other"]) (sc := defScope s_Leading_add_row) (by decide +kernel)) (fun _ _ _ _ _ => (pg_tK K rfl (n := 2) (pgs_cons (pg_name (i := 4) sc_Leading_add_row.nd rfl (by first | exact Or.inl rfl | exact Or.inr rfl)) (pgs_cons (pg_name (i := 5) sc_Leading_add_row.nd rfl (by first | exact Or.inl rfl | exact Or.inr rfl)) pgs_nil)))) (fun _ _ _ _ _ => pts_nil) (fun _ _ _ _ _ => (pe_op op_add (pv 4) (pe_op op_mulB (pv 3) (pv 5))))) (pg_sub (pe_fldK K rfl (pv 0)) (pv 1) set_list))
    (pss_one (ps_expr (pe_bm PySem.F.plainAttrs_list PySem.F.slot_list_append PySem.F.type_list_append mt_append (pe_fldK K rfl (pv 0)) (pa_cons (pe_tup (pa_cons pe_str (pa_cons (pv 1) (pa_cons (pv 2) (pa_cons (pv 3) pa_nil))))) pa_nil)))))
    pss_nil)), ?_⟩
  refine ⟨_, rfl, rfl, _, rfl, ?_⟩
  rw [vne]
  by_cases e : q = 0
  · subst e
    refine iteF (k H ?_ (Tups.refl H))
    unfold rowsAd dsAd
    rw [if_pos rfl, if_pos rfl]; exact hl
  rw [show decide (q ≠ 0) = true from decide_eq_true e]
  refine iteT ?_
  obtain ⟨dx, L, RD, CD, as, das, cas, l⟩ := id hl
  have hlen : as.length = R.length := l.rows.length
  have hm := tab.len
  obtain ⟨c, hc, hc', oc⟩ := own_at l (i := i) (by omega)
  obtain ⟨c2, hc2, hc2', oc2⟩ := own_at l (i := j) (by omega)
  have oc : H c = some (.lst ((R.getD i []).map V.int)) := oc
  have oc2 : H c2 = some (.lst ((R.getD j []).map V.int)) := oc2
  have l1 := getD_len tab hi
  have l2 := getD_len tab hj
  refine ⟨_, rfl, O, C, dx, _, _, rfl, l.ins, G.cls, G.rows, fs_rows, _, rfl, L, _, _, i, _, rfl, rfl, .of l.hL, rfl, hc', _, rfl, O, C, dx, _, _, rfl, l.ins, G.cls, G.rows, fs_rows, _, rfl, L, _, _, j, _, rfl, rfl, .of l.hL, rfl, hc2', ?_⟩
  refine ⟨c, c2, _, _, rfl, .inl ⟨.of oc, .of oc2, fun E' hE => ?_⟩⟩
  refine lc_fn (T := T) (walk_zip (n := w') (by rw [List.length_map, List.length_map, l1, l2]; omega)) hE (by omega) (fun t => V.int (rf (R.getD i []) t + q * rf (R.getD j []) t)) (fun _ e => ⟨.of (e.lst oc), .of (e.lst oc2)⟩) ?_ gmono_two ?_
  · rintro t x H1 H2 ht e ⟨z, y1, y2, rfl, hz, rfl, g1, g2⟩ K1 hk
    obtain ⟨n1, hn1, rfl⟩ := map_get g1
    obtain ⟨n2, hn2, rfl⟩ := map_get g2
    have ht' : t < (R.getD j []).length := by omega
    have e5 : Ex T H1 (upd H1 z (.tup [V.int n1, V.int n2])) := .new hz
    refine pair_g (sqT_of upd_same) ⟨rfl, _, rfl, _, rfl, _, rfl, _, _, rfl, rfl, ?_, _, _, rfl, rfl, ?_⟩
    · rw [← rf_at hn2]; exact hmul t ht'
    · rw [← rf_at hn1, ← rf_at hn2]
      exact hk _ (by rw [rf_at hn1, rf_at hn2]; exact e5)
  · intro H1 hE1 e1
    have e3 : (List.range w').map (fun t => V.int (rf (R.getD i []) t + q * rf (R.getD j []) t)) = (addk (R.getD i []) (R.getD j []) q).map V.int := by
      rw [← addk_range q (by omega), l1]
    rw [e3] at hE1
    have m1 := l.mono e1
    have nE : E' ∉ L :: RD :: CD :: as := fun h => by
      simp only [List.mem_cons] at h
      rcases h with rfl | rfl | rfl | h
      · rw [l.hL] at hE; cases hE
      · rw [l.hRD] at hE; cases hE
      · rw [l.hCD] at hE; cases hE
      · obtain ⟨n, hn⟩ := List.mem_iff_getElem?.mp h
        obtain ⟨r0, _, hr0⟩ := l.rows.get hn
        have hr0 : H E' = some (.lst (r0.map V.int)) := hr0
        rw [hr0] at hE; cases hE
    have m2 := m1.newRow (p := E') (r := addk (R.getD i []) (R.getD j []) q) hE1 (l.ex.fr0 hE) nE i
    refine ⟨_, rfl, O, C, dx, _, _, rfl, m1.ins, G.cls, G.rows, fs_rows, _, rfl, L, _, _, i, rfl, rfl, m1.hL, ixN_nat (by rw [List.length_map, hlen]; omega), ?_⟩
    have t2 : Tups K H (upd H1 L (.lst ((as.map V.ref).set i (.ref E')))) := e1.tups.trans (tups_upd m1.hL)
    generalize upd H1 L (.lst ((as.map V.ref).set i (.ref E'))) = H2 at *
    refine ⟨_, rfl, O, C, dx, _, _, rfl, m2.ins, G.cls, G.rdeeds, fs_rdeeds, .inl ⟨rfl, _, .inl (.inl m2.hRD)⟩, _, rfl, _, rfl, _, rfl, by show 4 ≤ _; decide, fun b hb => ?_⟩
    have e3 : Ex T H2 (upd H2 b (.tup [.str "add", .int (i : Int), .int (j : Int), .int q])) := .new hb
    have m3 := m2.mono e3
    refine ⟨RD, _, _, rfl, rfl, m3.hRD, szm (by rw [List.length_map, m3.rds.length]; omega), ?_⟩
    have m4 := m3.pushR (b := b) (d := .add i j q) (sqT_of upd_same)
    refine k _ ?_ ((t2.trans e3.tups).trans (tups_upd m3.hRD))
    unfold rowsAd dsAd
    rw [if_neg e, if_neg e]
    exact ⟨_, _, _, _, _, _, _, m4⟩
end
end K94

set_option Elab.async false
set_option linter.all false
set_option maxRecDepth 100000
set_option maxHeartbeats 4000000
namespace K94
open PySem PySem.Spec PyProof.Rows L2
section
variable {P : Program} {w : World} {K : PySem.W.Frag} {mg : Str → Option Value} {base : Heap} {T : TabL}
/-! ### adding columns, turning -/
theorem Lead.fresh {C O dx L RD CD : Addr} {H0 H : Hp} {as das cas : List Addr} {R : List Row} {rd cd : List Deed} {w' : Nat} (l : Lead T K C H0 H O dx L RD CD as das cas w' R rd cd) {E' : Addr} (hE : H E' = none) : E' ∉ L :: RD :: CD :: as := fun h => by
  simp only [List.mem_cons] at h
  rcases h with rfl | rfl | rfl | h
  · rw [l.hL] at hE; cases hE
  · rw [l.hRD] at hE; cases hE
  · rw [l.hCD] at hE; cases hE
  · obtain ⟨n, hn⟩ := List.mem_iff_getElem?.mp h
    obtain ⟨r0, _, hr0⟩ := l.rows.get hn
    have hr0 : H E' = some (.lst (r0.map V.int)) := hr0
    rw [hr0] at hE; cases hE
def spAddC (T : TabL) (K : PySem.W.Frag) (C : Addr) : Sp := fun vs H Q _ => ∃ (H0 : Hp) (O : Addr) (m w i j : Nat) (q : Int) (R : List Row) (rd cd : List Deed), vs = [.ref O, .int (i : Int), .int (j : Int), .int q] ∧ LeadAt T K C H0 H O w R rd cd ∧ Tab m w R ∧ m ≤ 1000 ∧ i < w ∧ j < w ∧ (∀ a, a < m → IntMulOk q (ent R a j)) ∧ cd.length < 900000 ∧
  ∀ H', LeadAt T K C H0 H' O w (colsAd R i j q) rd (dsAd cd i j q) → Tups K H H' → Q .non H'
theorem sc_Leading_add_column : FnScope ["self", "i", "j", "often", "row"] ["self", "i", "j", "often"] (defScope s_Leading_add_column) := ⟨rfl, rfl, rfl, by decide +kernel, rfl, by decide +kernel, by decide +kernel⟩
theorem ok_Leading_add_column {C : Addr} (F : Mtd K C "add_column" "Leading.add_column" s_Leading_add_column) (B : Bi mg) (G : Ldg K C) : C8.Met P w K mg base 1 C "add_column" (spAddC T K C) [] := by
  refine F.met sc_Leading_add_column (fun vs H Q E h => ?_) (fun _ _ _ _ _ _ us hl => match us, hl with | [_, _, _, _], _ => rfl) (fun f cdv A outer s H vs Q E hr h => ?_)
  · obtain ⟨H0, O, m, w', i, j, q, R, rd, cd, rfl, _⟩ := h
    rfl
  obtain ⟨H0, O, m, w', i, j, q, R, rd, cd, rfl, hl, tab, hmm, hi, hj, hmul, hz, k⟩ := h
  refine ⟨_,
  (pss_one (ps_if (pt_cmpR op_ne (pv 3) pe_int (nomark _))
    (pss_cons (ps_for PassesOwn.never rfl (pi_lK K rfl (pe_fldK K rfl (pv 0))) (pg_name (i := 4) sc_Leading_add_column.nd rfl (by first | exact Or.inl rfl | exact Or.inr rfl))
      (pss_one (ps_asg (pe_op op_add (pe_ix (ix_lrow K) (pv 4) (pv 1) (fun _ _ => rfl)) (pe_op op_mulB (pv 3) (pe_ix (ix_lrow K) (pv 4) (pv 2) (fun _ _ => rfl)))) (pg_sub (pv 4) (pv 1) set_list))))
    (pss_one (ps_expr (pe_bm PySem.F.plainAttrs_list PySem.F.slot_list_append PySem.F.type_list_append mt_append (pe_fldK K rfl (pv 0)) (pa_cons (pe_tup (pa_cons pe_str (pa_cons (pv 1) (pa_cons (pv 2) (pa_cons (pv 3) pa_nil))))) pa_nil)))))
    pss_nil)), ?_⟩
  refine ⟨_, rfl, rfl, _, rfl, ?_⟩
  rw [vne]
  by_cases e : q = 0
  · subst e
    refine iteF (k H ?_ (Tups.refl H))
    unfold colsAd dsAd
    rw [if_pos rfl, if_pos rfl]; exact hl
  rw [show decide (q ≠ 0) = true from decide_eq_true e]
  refine iteT ?_
  obtain ⟨dx, L, RD, CD, as, das, cas, l⟩ := id hl
  have hlen : as.length = R.length := l.rows.length
  have hm := tab.len
  refine ⟨_, rfl, O, C, dx, _, _, rfl, l.ins, G.cls, G.rows, fs_rows, L, rfl, ⟨_, .of l.hL⟩, for_it walk_list (fun t σ H' => ∃ (u4 : Option V), Lead T K C H0 H' O dx L RD CD as das cas w' (preC R (.add i j q) t) rd cd ∧ Tups K H H' ∧ σ = [some (.ref O), some (.int (i : Int)), some (.int (j : Int)), some (.int q), u4])
    ⟨_, l, Tups.refl H, rfl⟩ (fun t σ H' _ h => by obtain ⟨_, l, _⟩ := h; exact .of l.hL) ?_ ?_⟩
  · rintro t x σ H2 H3 ht ⟨u4, l2, tp, rfl⟩ ⟨rfl, hx⟩
    have ht' : t < R.length := by rw [List.length_map] at ht; omega
    obtain ⟨a, ha, rfl⟩ := ref_get hx
    have pl : t < (preC R (.add i j q) t).length := by rw [preC_len]; exact ht'
    obtain ⟨a', ha', _, oa⟩ := own_at l2 pl
    rw [ha] at ha'
    cases ha'
    have er : (preC R (.add i j q) t).getD t [] = R.getD t [] := by rw [List.getD_eq_getElem?_getD, preC_get, if_neg (by omega), List.getD_eq_getElem?_getD]
    rw [er] at oa
    have rl := getD_len tab (i := t) (by omega)
    have oa : H3 a = some (.lst ((R.getD t []).map V.int)) := oa
    refine ⟨_, rfl, _, rfl, a, R.getD t [], _, i, rfl, rfl, .of oa, rfl, by omega, ?_⟩
    refine ⟨_, rfl, _, rfl, _, rfl, a, R.getD t [], _, j, rfl, rfl, .of oa, rfl, by omega, ?_⟩
    refine ⟨_, _, rfl, rfl, hmul t (by omega), _, _, rfl, rfl, ?_⟩
    refine ⟨_, rfl, _, rfl, a, _, _, i, rfl, rfl, oa, ixN_nat (by rw [List.length_map]; omega), ?_⟩
    have ev : ((R.getD t []).map V.int).set i (V.int (rf (R.getD t []) i + q * rf (R.getD t []) j)) = (colRow (R.getD t []) (.add i j q)).map V.int := by
      show _ = ((R.getD t []).set i _).map V.int
      rw [List.map_set]
    dsimp only
    rw [ev]
    refine ⟨_, ?_, tp.trans (tups_upd oa), rfl⟩
    have := l2.putRow (r := colRow (R.getD t []) (.add i j q)) ha
    show Lead T K C H0 _ O dx L RD CD as das cas w' ((preC R (.add i j q) t).set t (colRow ((preC R (.add i j q) t).getD t []) (.add i j q))) rd cd
    rw [er]; exact this
  · rintro σ H2 ⟨u4, l2, tp, rfl⟩
    have l2 : Lead T K C H0 H2 O dx L RD CD as das cas w' (colsB R (.add i j q)) rd cd := by
      rw [List.length_map, hlen, preC_all] at l2; exact l2
    refine ⟨_, rfl, O, C, dx, _, _, rfl, l2.ins, G.cls, G.cdeeds, fs_cdeeds, .inl ⟨rfl, _, .inl (.inl l2.hCD)⟩, _, rfl, _, rfl, _, rfl, by show 4 ≤ _; decide, fun b hb => ?_⟩
    have e3 : Ex T H2 (upd H2 b (.tup [.str "add", .int (i : Int), .int (j : Int), .int q])) := .new hb
    have l3 := l2.mono e3
    refine ⟨CD, _, _, rfl, rfl, l3.hCD, szm (by rw [List.length_map, l3.cds.length]; omega), ?_⟩
    have l4 := l3.pushC (b := b) (d := .add i j q) (sqT_of upd_same)
    refine k _ ?_ ((tp.trans e3.tups).trans (tups_upd l3.hCD))
    unfold colsAd dsAd
    rw [if_neg e, if_neg e]
    exact ⟨_, _, _, _, _, _, _, l4⟩
def rowsTu (R : List Row) (k : Nat) : List Row := if ent R k k < 0 then rowsB R (.turn k) else R
def dsTu (R : List Row) (ds : List Deed) (k : Nat) : List Deed := if ent R k k < 0 then ds ++ [.turn k] else ds
def spTurnUp (T : TabL) (K : PySem.W.Frag) (C : Addr) : Sp := fun vs H Q _ => ∃ (H0 : Hp) (O : Addr) (m w i : Nat) (R : List Row) (rd cd : List Deed), vs = [.ref O, .int (i : Int)] ∧ LeadAt T K C H0 H O w R rd cd ∧ Tab m w R ∧ i < m ∧ i < w ∧ w ≤ 1000 ∧ rd.length < 900000 ∧
  ∀ H', LeadAt T K C H0 H' O w (rowsTu R i) (dsTu R rd i) cd → Tups K H H' → Q .non H'
theorem sc_Leading_turn_up : FnScope ["self", "k", "one"] ["self", "k"] (defScope s_Leading_turn_up) := ⟨rfl, rfl, rfl, by decide +kernel, rfl, by decide +kernel, by decide +kernel⟩
theorem ok_Leading_turn_up {C : Addr} (F : Mtd K C "turn_up" "Leading.turn_up" s_Leading_turn_up) (B : Bi mg) (G : Ldg K C) : C8.Met P w K mg base 1 C "turn_up" (spTurnUp T K C) [] := by
  refine F.met sc_Leading_turn_up (fun vs H Q E h => ?_) (fun _ _ _ _ _ _ us hl => match us, hl with | [_, _], _ => rfl) (fun f cdv A outer s H vs Q E hr h => ?_)
  · obtain ⟨H0, O, m, w', i, R, rd, cd, rfl, _⟩ := h
    rfl
  obtain ⟨H0, O, m, w', i, R, rd, cd, rfl, hl, tab, hi, hiw, hw, hz, k⟩ := h
  refine ⟨_,
  (pss_one (ps_if (pt_cmpR op_lt (pe_ix (ix_lrow K) (pe_ix (ix_l K) (pe_fldK K rfl (pv 0)) (pv 1) (fun _ _ => rfl)) (pv 1) (fun _ _ => rfl)) pe_int (nomark _))
    (pss_cons (ps_asg (pe_lc (own := [("one", 2)]) (by rfl) sc_Leading_turn_up.nd (pi_lK K rfl (pe_ix (ix_l K) (pe_fldK K rfl (pv 0)) (pv 1) (fun _ _ => rfl))) (blkOk_by (own := [("one", 2)]) (N := ["self", "k", "one"]) (sc := defScope s_Leading_turn_up) (by decide +kernel)) (fun _ _ _ _ _ => (pg_name (i := 2) sc_Leading_turn_up.nd rfl (by first | exact Or.inl rfl | exact Or.inr rfl))) (fun _ _ _ _ _ => pts_nil) (fun _ _ _ _ _ => (pe_op op_sub pe_int (pv 2)))) (pg_sub (pe_fldK K rfl (pv 0)) (pv 1) set_list))
    (pss_one (ps_expr (pe_bm PySem.F.plainAttrs_list PySem.F.slot_list_append PySem.F.type_list_append mt_append (pe_fldK K rfl (pv 0)) (pa_cons (pe_tup (pa_cons pe_str (pa_cons (pv 1) pa_nil))) pa_nil)))))
    pss_nil)), ?_⟩
  obtain ⟨dx, L, RD, CD, as, das, cas, l⟩ := id hl
  have hlen : as.length = R.length := l.rows.length
  have hm := tab.len
  obtain ⟨c, hc, hc', oc⟩ := own_at l (i := i) (by omega)
  have oc : H c = some (.lst ((R.getD i []).map V.int)) := oc
  have l1 := getD_len tab hi
  refine ⟨_, rfl, O, C, dx, _, _, rfl, l.ins, G.cls, G.rows, fs_rows, _, rfl, L, _, _, i, _, rfl, rfl, .of l.hL, rfl, hc', _, rfl, c, R.getD i [], _, i, rfl, rfl, .of oc, rfl, by omega, _, _, rfl, rfl, _, rfl, ?_⟩
  have eent : rf (R.getD i []) i = ent R i i := rfl
  refine ite2 (fun hneg => ?_) fun hnn => ?_
  · have hneg : ent R i i < 0 := of_decide_eq_true hneg
    refine ⟨_, rfl, O, C, dx, _, _, rfl, l.ins, G.cls, G.rows, fs_rows, _, rfl, L, _, _, i, _, rfl, rfl, .of l.hL, rfl, hc', c, rfl, ⟨_, .of oc⟩, fun E' hE => ?_⟩
    refine lc_fn (T := T) walk_list hE (by rw [List.length_map, l1]; omega) (fun t => V.int (- rf (R.getD i []) t)) (fun _ e => .of (e.lst oc)) ?_ gmono_name ?_
    · rintro t x H1 H2 ht e ⟨rfl, hx⟩ K1 hk
      obtain ⟨n, hn, rfl⟩ := map_get hx
      refine ⟨rfl, _, rfl, _, _, rfl, rfl, ?_⟩
      rw [← rf_at hn]
      show K1 (.int (0 - rf (R.getD i []) t)) H2
      rw [Int.zero_sub]
      exact hk _ (.refl _)
    · intro H1 hE1 e1
      have e3 : (List.range ((R.getD i []).map V.int).length).map (fun t => V.int (- rf (R.getD i []) t)) = ((R.getD i []).map fun x => -x).map V.int := by
        refine List.ext_getElem? fun t => ?_
        by_cases ht : t < (R.getD i []).length
        · rw [List.getElem?_map, List.getElem?_range (by rw [List.length_map]; exact ht), List.getElem?_map, List.getElem?_map, rf_get ht]; rfl
        · rw [List.getElem?_eq_none (by simp at ht ⊢; omega), List.getElem?_eq_none (by simp at ht ⊢; omega)]
      rw [e3] at hE1
      have m1 := l.mono e1
      have m2 := m1.newRow (p := E') (r := (R.getD i []).map fun x => -x) hE1 (l.ex.fr0 hE) (l.fresh hE) i
      refine ⟨_, rfl, O, C, dx, _, _, rfl, m1.ins, G.cls, G.rows, fs_rows, _, rfl, L, _, _, i, rfl, rfl, m1.hL, ixN_nat (by rw [List.length_map, hlen]; omega), ?_⟩
      have t2 : Tups K H (upd H1 L (.lst ((as.map V.ref).set i (.ref E')))) := e1.tups.trans (tups_upd m1.hL)
      generalize upd H1 L (.lst ((as.map V.ref).set i (.ref E'))) = H2 at *
      refine ⟨_, rfl, O, C, dx, _, _, rfl, m2.ins, G.cls, G.rdeeds, fs_rdeeds, .inl ⟨rfl, _, .inl (.inl m2.hRD)⟩, _, rfl, by show 2 ≤ _; decide, fun b hb => ?_⟩
      have e3 : Ex T H2 (upd H2 b (.tup [.str "turn", .int (i : Int)])) := .new hb
      have m3 := m2.mono e3
      refine ⟨RD, _, _, rfl, rfl, m3.hRD, szm (by rw [List.length_map, m3.rds.length]; omega), ?_⟩
      have m4 := m3.pushR (b := b) (d := .turn i) (sqT_of upd_same)
      refine k _ ?_ ((t2.trans e3.tups).trans (tups_upd m3.hRD))
      unfold rowsTu dsTu
      rw [if_pos hneg, if_pos hneg]
      exact ⟨_, _, _, _, _, _, _, m4⟩
  · have hnn : ¬ ent R i i < 0 := fun h => hnn (decide_eq_true h)
    refine k H ?_ (Tups.refl H)
    unfold rowsTu dsTu
    rw [if_neg hnn, if_neg hnn]; exact hl
end
end K94

set_option Elab.async false
set_option linter.all false
set_option maxRecDepth 100000
set_option maxHeartbeats 4000000
namespace K94
open PySem PySem.Spec PyProof.Rows L2
section
variable {P : Program} {w : World} {K : PySem.W.Frag} {mg : Str → Option Value} {base : Heap} {T : TabL}
/-! ### the least -/
def Bst (K : PySem.W.Frag) (H : Hp) (E : Mat) (P : Nat → Nat → Prop) (v : V) (s : Int) : Prop :=
  (v = .non ∧ ∀ a b, P a b → E a b = 0) ∨ ∃ (p : Addr) (i j : Nat), v = .ref p ∧ SqT K H p [.int (i : Int), .int (j : Int)] ∧ s = ((E i j).natAbs : Int) ∧ P i j ∧ E i j ≠ 0 ∧
    (∀ a b, P a b → E a b ≠ 0 → (E i j).natAbs ≤ (E a b).natAbs) ∧ ∀ a b, P a b → E a b ≠ 0 → (a < i ∨ a = i ∧ b < j) → (E i j).natAbs < (E a b).natAbs
section
variable {H H' : Hp} {E : Mat} {P P' : Nat → Nat → Prop} {v : V} {s : Int} {x y : Nat} {p : Addr}
theorem Bst.mono (h : Bst K H E P v s) (e : Ex T H H') : Bst K H' E P v s := by
  rcases h with h | ⟨p, i, j, h1, h2, h3⟩
  · exact .inl h
  · exact .inr ⟨p, i, j, h1, e.sqT h2, h3⟩
theorem Bst.congr (h : Bst K H E P v s) (e : ∀ a b, P' a b ↔ P a b) : Bst K H E P' v s := by
  rcases h with ⟨h1, h2⟩ | ⟨p, i, j, h1, h2, h3, h4, h5, h6, h7⟩
  · exact .inl ⟨h1, fun a b q => h2 a b ((e a b).mp q)⟩
  · exact .inr ⟨p, i, j, h1, h2, h3, (e i j).mpr h4, h5, fun a b q => h6 a b ((e a b).mp q), fun a b q => h7 a b ((e a b).mp q)⟩
/-- one that isn't less -/
theorem Bst.keep (h : Bst K H E P v s) (before : ∀ a b, P a b → a < x ∨ a = x ∧ b < y) (hP : ∀ a b, P' a b ↔ P a b ∨ (a = x ∧ b = y)) (hn : E x y = 0 ∨ (v ≠ .non ∧ s ≤ ((E x y).natAbs : Int))) : Bst K H E P' v s := by
  rcases h with ⟨h1, h2⟩ | ⟨p, i, j, h1, h2, h3, h4, h5, h6, h7⟩
  · refine .inl ⟨h1, fun a b q => ?_⟩
    rcases (hP a b).mp q with q | ⟨rfl, rfl⟩
    · exact h2 a b q
    · rcases hn with q | ⟨q, _⟩
      · exact q
      · exact absurd h1 q
  · refine .inr ⟨p, i, j, h1, h2, h3, (hP i j).mpr (.inl h4), h5, fun a b q hne => ?_, fun a b q hne hlex => ?_⟩
    · rcases (hP a b).mp q with q | ⟨rfl, rfl⟩
      · exact h6 a b q hne
      · rcases hn with z | ⟨_, z⟩
        · exact absurd z hne
        · omega
    · rcases (hP a b).mp q with q | ⟨rfl, rfl⟩
      · exact h7 a b q hne hlex
      · have := before i j h4
        omega
theorem Bst.put (h : Bst K H E P v s) (hP : ∀ a b, P' a b ↔ P a b ∨ (a = x ∧ b = y)) (hx : E x y ≠ 0) (hn : v = .non ∨ ((E x y).natAbs : Int) < s) (hp : SqT K H' p [.int (x : Int), .int (y : Int)]) : Bst K H' E P' (.ref p) ((E x y).natAbs : Int) := by
  have old : ∀ a b, P a b → E a b ≠ 0 → (E x y).natAbs < (E a b).natAbs := fun a b q hne => by
    rcases h with ⟨h1, h2⟩ | ⟨p, i, j, h1, h2, h3, h4, h5, h6, h7⟩
    · exact absurd (h2 a b q) hne
    · rcases hn with z | z
      · rw [h1] at z; cases z
      · have := h6 a b q hne
        omega
  refine .inr ⟨p, x, y, rfl, hp, rfl, (hP x y).mpr (.inr ⟨rfl, rfl⟩), hx, fun a b q hne => ?_, fun a b q hne hlex => ?_⟩
  · rcases (hP a b).mp q with q | ⟨rfl, rfl⟩
    · exact Nat.le_of_lt (old a b q hne)
    · exact Nat.le_refl _
  · rcases (hP a b).mp q with q | ⟨rfl, rfl⟩
    · exact old a b q hne
    · omega
end
def Least (K : PySem.W.Frag) (H : Hp) (m w k : Nat) (E : Mat) (v : V) : Prop :=
  (v = .non ∧ ∀ a b, k ≤ a → a < m → k ≤ b → b < w → E a b = 0) ∨ ∃ (p : Addr) (i j : Nat), v = .ref p ∧ SqT K H p [.int (i : Int), .int (j : Int)] ∧ Spot m w k E i j
theorem abs_int (x : Int) : (if x < 0 then -x else x) = (x.natAbs : Int) := by split <;> omega
def spLeastAt (T : TabL) (K : PySem.W.Frag) (C : Addr) : Sp := fun vs H Q _ => ∃ (H0 : Hp) (O : Addr) (m w k : Nat) (R : List Row) (rd cd : List Deed), vs = [.ref O, .int (k : Int)] ∧ LeadAt T K C H0 H O w R rd cd ∧ Tab m w R ∧ m ≤ 1000 ∧ w ≤ 1000 ∧ k ≤ 1000 ∧
  ∀ H' v, Ex T H H' → Least K H' m w k (ent R) v → Q v H'
theorem sc_Leading_least_at : FnScope ["self", "k", "found", "least", "i", "j", "size"] ["self", "k"] (defScope s_Leading_least_at) := ⟨rfl, rfl, rfl, by decide +kernel, rfl, by decide +kernel, by decide +kernel⟩
theorem ok_Leading_least_at {C : Addr} (F : Mtd K C "least_at" "Leading.least_at" s_Leading_least_at) (B : Bi mg) (G : Ldg K C) : C8.Met P w K mg base 1 C "least_at" (spLeastAt T K C) [] := by
  refine F.met sc_Leading_least_at (fun vs H Q E h => ?_) (fun _ _ _ _ _ _ us hl => match us, hl with | [_, _], _ => rfl) (fun f cdv A outer s H vs Q E hr h => ?_)
  · obtain ⟨H0, O, m, w', k0, R, rd, cd, rfl, _⟩ := h
    rfl
  obtain ⟨H0, O, m, w', k0, R, rd, cd, rfl, ⟨dx, L, RD, CD, as, das, cas, l⟩, tab, hm, hw, hk, k⟩ := h
  refine ⟨_,
  (pss_cons (ps_set (i := 2) sc_Leading_least_at.nd rfl (by first | exact Or.inl rfl | exact Or.inr rfl) pe_non)
  (pss_cons (ps_set (i := 3) sc_Leading_least_at.nd rfl (by first | exact Or.inl rfl | exact Or.inr rfl) pe_int)
  (pss_cons (ps_for PassesOwn.never rfl (pi_rgN2 rfl B.range (pa_cons (pv 1) (pa_cons (pe_callB (call_lenN K) (by rfl) B.len PySem.boot_len (pa_cons (pe_fldK K rfl (pv 0)) pa_nil)) pa_nil))) (pg_name (i := 4) sc_Leading_least_at.nd rfl (by first | exact Or.inl rfl | exact Or.inr rfl))
    (pss_one (ps_for PassesOwn.never rfl (pi_rgN2 rfl B.range (pa_cons (pv 1) (pa_cons (pe_fldK K rfl (pv 0)) pa_nil))) (pg_name (i := 5) sc_Leading_least_at.nd rfl (by first | exact Or.inl rfl | exact Or.inr rfl))
      (pss_cons (ps_set (i := 6) sc_Leading_least_at.nd rfl (by first | exact Or.inl rfl | exact Or.inr rfl) (pe_callB call_abs (by rfl) B.abs (by decide +kernel) (pa_cons (pe_ix (ix_lrow K) (pe_ix (ix_l K) (pe_fldK K rfl (pv 0)) (pv 4) (fun _ _ => rfl)) (pv 5) (fun _ _ => rfl)) pa_nil)))
      (pss_one (ps_if (PW.pt (pw_and (pt_cmpR op_gt (pv 6) pe_int (nomark _)) (pw_and1 (PW.pt (pw_or (pt_cmpR op_isN (pv 2) pe_non (nomark _)) (pw_or1 (pt_cmpR op_lt (pv 6) (pv 3) (nomark _))))))))
        (pss_cons (ps_set (i := 2) sc_Leading_least_at.nd rfl (by first | exact Or.inl rfl | exact Or.inr rfl) (pe_tup (pa_cons (pv 4) (pa_cons (pv 5) pa_nil))))
        (pss_one (ps_set (i := 3) sc_Leading_least_at.nd rfl (by first | exact Or.inl rfl | exact Or.inr rfl) (pv 6))))
        pss_nil))))))
  (pss_one (ps_ret (pv 2)))))), ?_⟩
  have hlen : as.length = R.length := l.rows.length
  have hml := tab.len
  refine ⟨_, rfl, _, rfl, O, C, dx, _, _, rfl, l.ins, G.cls, G.rows, fs_rows, ?_⟩
  refine ⟨L, _, m, rfl, .inl (.of l.hL), by rw [List.length_map]; omega, _, _, k0, m, rfl, rfl, rfl, by omega, by omega, for_it walk_N (fun t σ H' => ∃ (v : V) (s : Int) (u4 u5 u6 : Option V), Ex T H H' ∧ Bst K H' (ent R) (fun a b => k0 ≤ a ∧ a < k0 + t ∧ k0 ≤ b ∧ b < w') v s ∧ σ = [some (.ref O), some (.int (k0 : Int)), some v, some (.int s), u4, u5, u6])
    ⟨.non, 0, _, _, _, .refl H, .inl ⟨rfl, fun a b q => by omega⟩, rfl⟩ (fun _ _ _ _ _ => trivial) ?_ ?_⟩
  · rintro t x σ H2 H3 ht ⟨v, s, u4, u5, u6, ex, bst, rfl⟩ ⟨rfl, rfl⟩
    have P2 : ∀ H, Ex T H3 H → Lead T K C H0 H O dx L RD CD as das cas w' R rd cd := fun H e => l.mono (ex.trans e)
    have l2 := P2 H3 (.refl _)
    refine ⟨_, rfl, _, rfl, O, C, dx, _, _, rfl, l2.ins, G.cls, G.wide, fs_wide, _, _, k0, w', rfl, rfl, rfl, by omega, by omega, for_it walk_N (fun r σ H' => ∃ (v : V) (s : Int) (u5 u6 : Option V), Ex T H H' ∧ Bst K H' (ent R) (fun a b => k0 ≤ a ∧ k0 ≤ b ∧ b < w' ∧ (a < k0 + t ∨ a = k0 + t ∧ b < k0 + r)) v s ∧ σ = [some (.ref O), some (.int (k0 : Int)), some v, some (.int s), some (.int ((k0 + t : Nat) : Int)), u5, u6])
      ⟨v, s, _, _, ex, bst.congr fun a b => by omega, rfl⟩ (fun _ _ _ _ _ => trivial) ?_ ?_⟩
    · rintro r x σ H4 H5 hr2 ⟨v, s, u5, u6, ex4, bst4, rfl⟩ ⟨rfl, rfl⟩
      have l5 := l.mono ex4
      obtain ⟨c, hc, hc', oc⟩ := own_at l5 (i := k0 + t) (by omega)
      have oc : H5 c = some (.lst ((R.getD (k0 + t) []).map V.int)) := oc
      have l1 := getD_len tab (i := k0 + t) (by omega)
      refine ⟨_, rfl, O, C, dx, _, _, rfl, l5.ins, G.cls, G.rows, fs_rows, _, rfl, L, _, _, k0 + t, _, rfl, rfl, .of l5.hL, rfl, hc', _, rfl, c, R.getD (k0 + t) [], _, k0 + r, rfl, rfl, .of oc, rfl, by omega, ?_⟩
      refine ⟨_, rfl, ?_⟩
      rw [abs_int]
      dsimp only [gName]
      have ee : rf (R.getD (k0 + t) []) (k0 + r) = ent R (k0 + t) (k0 + r) := rfl
      rw [ee]
      have before : ∀ a b, (k0 ≤ a ∧ k0 ≤ b ∧ b < w' ∧ (a < k0 + t ∨ a = k0 + t ∧ b < k0 + r)) → a < k0 + t ∨ a = k0 + t ∧ b < k0 + r := fun a b q => q.2.2.2
      have hP : ∀ a b, (k0 ≤ a ∧ k0 ≤ b ∧ b < w' ∧ (a < k0 + t ∨ a = k0 + t ∧ b < k0 + (r + 1))) ↔ (k0 ≤ a ∧ k0 ≤ b ∧ b < w' ∧ (a < k0 + t ∨ a = k0 + t ∧ b < k0 + r)) ∨ (a = k0 + t ∧ b = k0 + r) := fun a b => by omega
      have put : (v = .non ∨ (((ent R (k0 + t) (k0 + r)).natAbs : Nat) : Int) < s) → ent R (k0 + t) (k0 + r) ≠ 0 → ∀ q, H5 q = none → ∃ v s u5 u6, Ex T H (upd H5 q (.tup [.int ((k0 + t : Nat) : Int), .int ((k0 + r : Nat) : Int)])) ∧ Bst K (upd H5 q (.tup [.int ((k0 + t : Nat) : Int), .int ((k0 + r : Nat) : Int)])) (ent R) (fun a b => k0 ≤ a ∧ k0 ≤ b ∧ b < w' ∧ (a < k0 + t ∨ a = k0 + t ∧ b < k0 + (r + 1))) v s ∧
          [some (V.ref O), some (.int (k0 : Int)), some (.ref q), some (.int (((ent R (k0 + t) (k0 + r)).natAbs : Nat) : Int)), some (.int ((k0 + t : Nat) : Int)), some (.int ((k0 + r : Nat) : Int)), some (.int (((ent R (k0 + t) (k0 + r)).natAbs : Nat) : Int))] = [some (.ref O), some (.int (k0 : Int)), some v, some (.int s), some (.int ((k0 + t : Nat) : Int)), u5, u6] := fun h1 h2 q hq =>
        ⟨.ref q, _, _, _, ex4.trans (.new hq), bst4.put hP h2 h1 (sqT_of upd_same), rfl⟩
      have keep : (ent R (k0 + t) (k0 + r) = 0 ∨ (v ≠ .non ∧ s ≤ (((ent R (k0 + t) (k0 + r)).natAbs : Nat) : Int))) → ∃ v' s' u5 u6, Ex T H H5 ∧ Bst K H5 (ent R) (fun a b => k0 ≤ a ∧ k0 ≤ b ∧ b < w' ∧ (a < k0 + t ∨ a = k0 + t ∧ b < k0 + (r + 1))) v' s' ∧
          [some (V.ref O), some (.int (k0 : Int)), some v, some (.int s), some (.int ((k0 + t : Nat) : Int)), some (.int ((k0 + r : Nat) : Int)), some (.int (((ent R (k0 + t) (k0 + r)).natAbs : Nat) : Int))] = [some (.ref O), some (.int (k0 : Int)), some v', some (.int s'), some (.int ((k0 + t : Nat) : Int)), u5, u6] := fun h1 =>
        ⟨v, s, _, _, ex4, bst4.keep before hP h1, rfl⟩
      refine ⟨_, rfl, _, _, rfl, rfl, _, rfl, ite2 (fun hpos => ?_) fun hz => iteF (keep (.inl ?_))⟩
      · have hne : ent R (k0 + t) (k0 + r) ≠ 0 := by
          have := of_decide_eq_true hpos
          omega
        refine ⟨_, rfl, rfl, _, rfl, ite2 (fun hn => iteT ?_) fun hn => ?_⟩
        · exact ⟨_, rfl, _, rfl, by show 2 ≤ _; decide, fun q hq => ⟨_, rfl, put (.inl (of_decide_eq_true hn)) hne q hq⟩⟩
        · have hn : v ≠ .non := fun e => hn (decide_eq_true e)
          refine ⟨_, rfl, _, rfl, _, _, rfl, rfl, _, rfl, ite2 (fun hlt => ?_) fun hge => keep (.inr ⟨hn, ?_⟩)⟩
          · exact ⟨_, rfl, _, rfl, by show 2 ≤ _; decide, fun q hq => ⟨_, rfl, put (.inr (of_decide_eq_true hlt)) hne q hq⟩⟩
          · have : ¬ ((((ent R (k0 + t) (k0 + r)).natAbs : Nat) : Int) < s) := fun z => hge (decide_eq_true z)
            omega
      · have : ¬ ((0 : Int) < (((ent R (k0 + t) (k0 + r)).natAbs : Nat) : Int)) := fun z => hz (decide_eq_true z)
        omega
    · rintro σ H4 ⟨v, s, u5, u6, ex4, bst4, rfl⟩
      exact ⟨v, s, _, _, _, ex4, bst4.congr fun a b => by omega, rfl⟩
  · rintro σ H2 ⟨v, s, u4, u5, u6, ex, bst, rfl⟩
    refine ⟨_, rfl, k _ v ex ?_⟩
    rcases bst with ⟨h1, h2⟩ | ⟨p, i, j, h1, h2, h3, h4, h5, h6, h7⟩
    · exact .inl ⟨h1, fun a b q1 q2 q3 q4 => h2 a b ⟨q1, by omega, q3, q4⟩⟩
    · exact .inr ⟨p, i, j, h1, h2, ⟨h4.1, by omega, h4.2.2.1, h4.2.2.2, h5, fun a b q1 q2 q3 q4 => h6 a b ⟨q1, by omega, q3, q4⟩, fun a b q1 q2 q3 q4 => h7 a b ⟨q1, by omega, q3, q4⟩⟩⟩
end
end K94

set_option Elab.async false
set_option linter.all false
set_option maxRecDepth 100000
set_option maxHeartbeats 4000000
namespace K94
open PySem PySem.Spec PyProof.Rows L2
section
variable {P : Program} {w : World} {K : PySem.W.Frag} {mg : Str → Option Value} {base : Heap} {T : TabL}
/-! ### what the top doesn't divide -/
def Undiv (m w k : Nat) (E : Mat) (v : V) : Prop :=
  (v = .non ∧ ∀ i b, k < i → i < m → k < b → b < w → (E i b).fmod (E k k) = 0) ∨ ∃ i : Nat, v = .int (i : Int) ∧ k < i ∧ i < m ∧ ∃ b, k < b ∧ b < w ∧ (E i b).fmod (E k k) ≠ 0
def spUndiv (T : TabL) (K : PySem.W.Frag) (C : Addr) : Sp := fun vs H Q _ => ∃ (H0 : Hp) (O : Addr) (m w k A : Nat) (R : List Row) (rd cd : List Deed), vs = [.ref O, .int (k : Int)] ∧ LeadAt T K C H0 H O w R rd cd ∧ Tab m w R ∧ m ≤ 1000 ∧ w ≤ 1000 ∧ k < m ∧ k < w ∧ ent R k k ≠ 0 ∧ (ent R k k).natAbs < 2 ^ 9000 ∧
  ∀ H' v, Ex T H H' → Undiv m w k (ent R) v → Q v H'
theorem sc_Leading_undivided : FnScope ["self", "k", "top", "i", "one"] ["self", "k"] (defScope s_Leading_undivided) := ⟨rfl, rfl, rfl, by decide +kernel, rfl, by decide +kernel, by decide +kernel⟩
theorem ok_Leading_undivided {C : Addr} (F : Mtd K C "undivided" "Leading.undivided" s_Leading_undivided) (B : Bi mg) (G : Ldg K C) : C8.Met P w K mg base 1 C "undivided" (spUndiv T K C) [] := by
  refine F.met sc_Leading_undivided (fun vs H Q E h => ?_) (fun _ _ _ _ _ _ us hl => match us, hl with | [_, _], _ => rfl) (fun f cdv A outer s H vs Q E hr h => ?_)
  · obtain ⟨H0, O, m, w', k0, A', R, rd, cd, rfl, _⟩ := h
    rfl
  obtain ⟨H0, O, m, w', k0, A', R, rd, cd, rfl, ⟨dx, L, RD, CD, as, das, cas, l⟩, tab, hm, hw, hkm, hkw, hne, hbits, k⟩ := h
  refine ⟨_,
  (pss_cons (ps_set (i := 2) sc_Leading_undivided.nd rfl (by first | exact Or.inl rfl | exact Or.inr rfl) (pe_ix (ix_lrow K) (pe_ix (ix_l K) (pe_fldK K rfl (pv 0)) (pv 1) (fun _ _ => rfl)) (pv 1) (fun _ _ => rfl)))
  (pss_cons (ps_for PassesOwn.never rfl (pi_rgN2 rfl B.range (pa_cons (pe_op op_add (pv 1) pe_int) (pa_cons (pe_callB (call_lenN K) (by rfl) B.len PySem.boot_len (pa_cons (pe_fldK K rfl (pv 0)) pa_nil)) pa_nil))) (pg_name (i := 3) sc_Leading_undivided.nd rfl (by first | exact Or.inl rfl | exact Or.inr rfl))
    (pss_one (ps_if (pt_val (pe_callB (cr_any rfl) (by rfl) B.any (by decide +kernel) (pa_cons (pe_lc (own := [("one", 4)]) (by rfl) sc_Leading_undivided.nd (pi_lK K rfl (pe_slice (sl_lK K) (pe_ix (ix_l K) (pe_fldK K rfl (pv 0)) (pv 3) (fun _ _ => rfl)) (po_some (pe_op op_add (pv 1) pe_int)) po_none)) (blkOk_by (own := [("one", 4)]) (N := ["self", "k", "top", "i", "one"]) (sc := defScope s_Leading_undivided) (by decide +kernel)) (fun _ _ _ _ _ => (pg_name (i := 4) sc_Leading_undivided.nd rfl (by first | exact Or.inl rfl | exact Or.inr rfl))) (fun _ _ _ _ _ => pts_nil) (fun _ _ _ _ _ => (pe_cmpR op_ne (pe_op op_modN (pv 4) (pv 2)) pe_int (nomark _)))) pa_nil)))
      (pss_one (ps_ret (pv 3)))
      pss_nil)))
  (pss_one (ps_ret pe_non)))), ?_⟩
  have hlen : as.length = R.length := l.rows.length
  have hml := tab.len
  obtain ⟨c, hc, hc', oc⟩ := own_at l (i := k0) (by omega)
  have oc : H c = some (.lst ((R.getD k0 []).map V.int)) := oc
  have l1 := getD_len tab (i := k0) (by omega)
  refine ⟨_, rfl, O, C, dx, _, _, rfl, l.ins, G.cls, G.rows, fs_rows, _, rfl, L, _, _, k0, _, rfl, rfl, .of l.hL, rfl, hc', _, rfl, c, R.getD k0 [], _, k0, rfl, rfl, .of oc, rfl, by omega, ?_⟩
  dsimp only [gName]
  refine ⟨_, rfl, _, _, rfl, rfl, _, rfl, O, C, dx, _, _, rfl, l.ins, G.cls, G.rows, fs_rows, ?_⟩
  refine ⟨L, _, m, rfl, .inl (.of l.hL), by rw [List.length_map]; omega, _, _, k0 + 1, m, rfl, rfl, rfl, by omega, by omega, for_it walk_N (fun t σ H' => ∃ (u3 u4 : Option V), Ex T H H' ∧ (∀ i b, k0 < i → i < k0 + 1 + t → k0 < b → b < w' → (ent R i b).fmod (ent R k0 k0) = 0) ∧ σ = [some (.ref O), some (.int (k0 : Int)), some (.int (ent R k0 k0)), u3, u4])
    ⟨_, _, .refl H, fun i b q1 q2 => by omega, rfl⟩ (fun _ _ _ _ _ => trivial) ?_ ?_⟩
  · rintro t x σ H2 H3 ht ⟨u3, u4, ex, hz, rfl⟩ ⟨rfl, rfl⟩
    have l2 := l.mono ex
    obtain ⟨c2, hc2, hc2', oc2⟩ := own_at l2 (i := k0 + 1 + t) (by omega)
    have oc2 : H3 c2 = some (.lst ((R.getD (k0 + 1 + t) []).map V.int)) := oc2
    refine ⟨_, rfl, O, C, dx, _, _, rfl, l2.ins, G.cls, G.rows, fs_rows, _, rfl, L, _, _, k0 + 1 + t, _, rfl, rfl, .of l2.hL, rfl, hc2', ?_⟩
    have lr := getD_len tab (i := k0 + 1 + t) (by omega)
    refine ⟨_, rfl, _, _, rfl, rfl, _, rfl, c2, _, rfl, .of oc2, fun p hp => ?_⟩
    rw [show ((k0 : Int) + 1) = ((k0 + 1 : Nat) : Int) by omega, cut_drop, ← List.map_drop]
    have e1 : Ex T H3 (upd H3 p (.lst (((R.getD (k0 + 1 + t) []).drop (k0 + 1)).map V.int))) := .new hp
    have hp1 : upd H3 p (.lst (((R.getD (k0 + 1 + t) []).drop (k0 + 1)).map V.int)) p = some (.lst (((R.getD (k0 + 1 + t) []).drop (k0 + 1)).map V.int)) := upd_same
    have ex1 := ex.trans e1
    generalize upd H3 p (.lst (((R.getD (k0 + 1 + t) []).drop (k0 + 1)).map V.int)) = H4 at *
    refine ⟨p, rfl, ⟨_, .of hp1⟩, fun D hD => ?_⟩
    refine lc_fn (T := T) walk_list hD (by rw [List.length_map, List.length_drop, lr]; omega) (fun j => V.bl (decide ((ent R (k0 + 1 + t) (k0 + 1 + j)).fmod (ent R k0 k0) ≠ 0))) (fun _ e => .of (e.lst hp1)) ?_ gmono_name ?_
    · rintro j x H5 H6 hj e ⟨rfl, hx⟩ K1 hk
      obtain ⟨n, hn, rfl⟩ := map_get hx
      have hn2 : (R.getD (k0 + 1 + t) [])[k0 + 1 + j]? = some n := by rw [List.getElem?_drop] at hn; exact hn
      have en : ent R (k0 + 1 + t) (k0 + 1 + j) = n := rf_at hn2
      refine ⟨rfl, _, rfl, _, rfl, _, _, rfl, rfl, hne, rfl, ?_⟩
      rw [vne, ← en]
      exact hk _ (.refl _)
    · intro H5 hD5 e5
      have hD6 : H5 D = some (.lst (((List.range (w' - (k0 + 1))).map fun j => decide ((ent R (k0 + 1 + t) (k0 + 1 + j)).fmod (ent R k0 k0) ≠ 0)).map V.bl)) := by
        rw [hD5, List.length_map, List.length_drop, lr, List.map_map]; rfl
      refine ⟨D, _, rfl, .of hD6, _, rfl, ?_⟩
      have any_iff : ((List.range (w' - (k0 + 1))).map fun j => decide ((ent R (k0 + 1 + t) (k0 + 1 + j)).fmod (ent R k0 k0) ≠ 0)).any id = true ↔ ∃ b, k0 < b ∧ b < w' ∧ (ent R (k0 + 1 + t) b).fmod (ent R k0 k0) ≠ 0 := by
        rw [List.any_eq_true]
        constructor
        · rintro ⟨x, hx, hb⟩
          obtain ⟨j, hj, rfl⟩ := List.mem_map.mp hx
          have := List.mem_range.mp hj
          exact ⟨k0 + 1 + j, by omega, by omega, of_decide_eq_true hb⟩
        · rintro ⟨b, h1, h2, h3⟩
          refine ⟨true, List.mem_map.mpr ⟨b - (k0 + 1), List.mem_range.mpr (by omega), ?_⟩, rfl⟩
          rw [show k0 + 1 + (b - (k0 + 1)) = b by omega]
          exact decide_eq_true h3
      have ex5 := ex1.trans e5
      refine ite2 (fun hy => ?_) fun hn => ⟨_, _, ex5, fun i b q1 q2 q3 q4 => ?_, rfl⟩
      · exact ⟨_, rfl, k _ _ ex5 (.inr ⟨k0 + 1 + t, rfl, by omega, by omega, any_iff.mp hy⟩)⟩
      · by_cases z : i < k0 + 1 + t
        · exact hz i b q1 z q3 q4
        · have : i = k0 + 1 + t := by omega
          subst this
          exact Classical.byContradiction fun q => hn (any_iff.mpr ⟨b, q3, q4, q⟩)
  · rintro σ H2 ⟨u3, u4, ex, hz, rfl⟩
    exact k _ _ ex (.inl ⟨rfl, fun i b q1 q2 q3 q4 => hz i b q1 (by omega) q3 q4⟩)
end
end K94

set_option Elab.async false
set_option linter.all false
set_option maxRecDepth 100000
set_option maxHeartbeats 4000000
namespace K94
open PySem PySem.Spec PyProof.Rows L2
section
variable {P : Program} {w : World} {K : PySem.W.Frag} {mg : Str → Option Value} {base : Heap} {T : TabL}
/-! ### what is told of an object -/
def spFormNow (T : TabL) (K : PySem.W.Frag) (C : Addr) : Sp := fun vs H Q _ => ∃ (H0 : Hp) (O : Addr) (m w : Nat) (R : List Row) (rd cd : List Deed), vs = [.ref O] ∧ LeadAt T K C H0 H O w R rd cd ∧ Tab m w R ∧ m ≤ 1000 ∧
  ∀ H' a, Ex T H H' → TabAt K H' a w R → Q (.ref a) H'
theorem sc_Leading_form_now : FnScope ["self", "row"] ["self"] (defScope s_Leading_form_now) := ⟨rfl, rfl, rfl, by decide +kernel, rfl, by decide +kernel, by decide +kernel⟩
theorem ok_Leading_form_now {C : Addr} (F : Mtd K C "form_now" "Leading.form_now" s_Leading_form_now) (B : Bi mg) (G : Ldg K C) : C8.Met P w K mg base 1 C "form_now" (spFormNow T K C) [] := by
  refine F.met sc_Leading_form_now (fun vs H Q E h => ?_) (fun _ _ _ _ _ _ us hl => match us, hl with | [_], _ => rfl) (fun f cdv A outer s H vs Q E hr h => ?_)
  · obtain ⟨H0, O, m, w', R, rd, cd, rfl, _⟩ := h
    rfl
  obtain ⟨H0, O, m, w', R, rd, cd, rfl, ⟨dx, L, RD, CD, as, das, cas, l⟩, tab, hm, k⟩ := h
  refine ⟨_,
  (pss_one (ps_ret (pe_tup (pa_cons (pe_fldK K rfl (pv 0)) (pa_cons (pe_callTy (call_tupK K) (by rfl) B.tuple (by decide +kernel) (pa_cons (pe_lc (own := [("row", 1)]) (by rfl) sc_Leading_form_now.nd (pi_lK K rfl (pe_fldK K rfl (pv 0))) (blkOk_by (own := [("row", 1)]) (N := ["self", "row"]) (sc := defScope s_Leading_form_now) (by decide +kernel)) (fun _ _ _ _ _ => (pg_name (i := 1) sc_Leading_form_now.nd rfl (by first | exact Or.inl rfl | exact Or.inr rfl))) (fun _ _ _ _ _ => pts_nil) (fun _ _ _ _ _ => (pe_callTy (call_tupK K) (by rfl) B.tuple (by decide +kernel) (pa_cons (pv 1) pa_nil)))) pa_nil)) pa_nil))))), ?_⟩
  have hlen : as.length = R.length := l.rows.length
  have hml := tab.len
  refine ⟨_, rfl, O, C, dx, _, _, rfl, l.ins, G.cls, G.wide, fs_wide, _, rfl, O, C, dx, _, _, rfl, l.ins, G.cls, G.rows, fs_rows, L, rfl, ⟨_, .of l.hL⟩, fun D hD => ?_⟩
  refine lc_obj (T := T) (A := RowAt K) walk_list hD (by rw [List.length_map]; omega) (fun i => R.getD i []) (fun H H' p b h e => e.row h) (fun H p b l l' h hD => row_upd h hD) (fun _ e => .of (e.lst l.hL)) ?_ gmono_name fun bs H2 hD2 al e2 => ?_
  · rintro i x H2 H3 hi e ⟨rfl, hx⟩ K1 hk
    rw [List.length_map] at hi
    obtain ⟨c, hc, hc', oc⟩ := own_at (l.mono e) (i := i) (by omega)
    rw [hc'] at hx
    cases hx
    have oc : H3 c = some (.lst ((R.getD i []).map V.int)) := oc
    exact ⟨rfl, _, rfl, c, _, rfl, .inl ⟨.of oc, fun p hp => hk p _ (.new hp) (row_of upd_same)⟩⟩
  · rw [List.length_map, hlen, rows_range] at al
    refine ⟨D, _, rfl, .inl ⟨.of hD2, fun p hp => ⟨by show 2 ≤ _; decide, fun q hq => ?_⟩⟩⟩
    have e3 : Ex T H2 (upd H2 p (.tup (bs.map V.ref))) := .new hp
    have e4 := e3.trans (.new hq (o := .tup [.int (w' : Int), .ref p]))
    exact k _ q (e2.trans e4) ⟨p, sqT_of upd_same, bs, (Ex.new hq).sqT (T := T) (sqT_of upd_same), e4.all al⟩
def spInit (T : TabL) (K : PySem.W.Frag) (C : Addr) : Sp := fun vs H Q _ => ∃ (H0 : Hp) (O dx a : Addr) (m w : Nat) (R : List Row), vs = [.ref O, .ref a] ∧ H O = some (.ins C dx []) ∧ Ex T H0 H ∧ Fr0 H0 O ∧ TabAt K H a w R ∧ Tab m w R ∧ m ≤ 1000 ∧
  ∀ H', LeadAt T K C H0 H' O w R [] [] → Q .non H'
theorem sc_Leading_init : FnScope ["self", "table", "row"] ["self", "table"] (defScope s_Leading_init) := ⟨rfl, rfl, rfl, by decide +kernel, rfl, by decide +kernel, by decide +kernel⟩
theorem ok_Leading_init {C : Addr} (F : Mkd K mg C "Leading" "Leading.__init__" s_Leading_init) (B : Bi mg) (G : Ldg K C) : C8.Mak P w K mg base 1 "Leading" C (spInit T K C) [] := by
  refine F.mak sc_Leading_init (fun vs H Q E h => ?_) (fun _ _ _ _ _ _ us hl => match us, hl with | [_, _], _ => rfl) (fun f cdv A outer s H vs Q E hr h => ?_)
  · obtain ⟨H0, O, dx, a, m, w', R, rfl, _⟩ := h
    rfl
  obtain ⟨H0, O, dx, a, m, w', R, rfl, hO, ex, fO, ⟨tb, hta, rs, hrs, hrows⟩, tab, hm, k⟩ := h
  refine ⟨_,
  (pss_cons (ps_fld (pv 0) (pe_ix (ix_t K) (pv 1) pe_int (fun _ _ => rfl)) rfl)
  (pss_cons (ps_fld (pv 0) (pe_lc (own := [("row", 2)]) (by rfl) sc_Leading_init.nd (pi_tK K rfl (pe_ix (ix_t K) (pv 1) pe_int (fun _ _ => rfl))) (blkOk_by (own := [("row", 2)]) (N := ["self", "table", "row"]) (sc := defScope s_Leading_init) (by decide +kernel)) (fun _ _ _ _ _ => (pg_name (i := 2) sc_Leading_init.nd rfl (by first | exact Or.inl rfl | exact Or.inr rfl))) (fun _ _ _ _ _ => pts_nil) (fun _ _ _ _ _ => (pe_callTy (call_lstK K) (by rfl) B.list (by decide +kernel) (pa_cons (pv 2) pa_nil)))) rfl)
  (pss_cons (ps_fld (pv 0) (pe_lst pa_nil) rfl)
  (pss_one (ps_fld (pv 0) (pe_lst pa_nil) rfl))))), ?_⟩
  have hrl : rs.length = R.length := hrows.length
  have hml := tab.len
  refine ⟨_, rfl, a, _, _, 0, _, rfl, rfl, hta, rfl, rfl, _, rfl, O, C, dx, _, rfl, hO, G.cls, G.wide, by decide, ?_⟩
  rw [show putF (Str.ofString "own_wide") (V.int (w' : Int)) [] = [((Str.ofString "own_wide"), V.int (w' : Int))] from rfl]
  have c1 : Ex T H0 (upd H O (.ins C dx [((Str.ofString "own_wide"), V.int (w' : Int))])) := ex.mut0 fO hO (plain_ins _ _ _)
  have hO1 : upd H O (.ins C dx [((Str.ofString "own_wide"), V.int (w' : Int))]) O = some (.ins C dx [((Str.ofString "own_wide"), V.int (w' : Int))]) := upd_same
  have ta1 : ∀ a xs, SqT K H a xs → SqT K (upd H O (.ins C dx [((Str.ofString "own_wide"), V.int (w' : Int))])) a xs := fun a xs q => by
    rcases q with (q | ⟨z, q⟩) | q
    · exact .inl (.inl (by rw [upd_ne (ne_of q hO (by simp))]; exact q))
    · exact .inl (.inr ⟨z, by rw [upd_ne (ne_of q hO (by simp))]; exact q⟩)
    · exact .inr q
  have hta1 := ta1 _ _ hta
  have hrs1 := ta1 _ _ hrs
  have hrows1 : All2 (RowAt K (upd H O (.ins C dx [((Str.ofString "own_wide"), V.int (w' : Int))]))) rs R := hrows.imp fun a r q => ta1 _ _ q
  generalize upd H O (.ins C dx [((Str.ofString "own_wide"), V.int (w' : Int))]) = H1 at *
  refine ⟨_, rfl, a, _, _, 1, _, rfl, rfl, hta1, rfl, rfl, tb, rfl, ⟨_, hrs1⟩, fun D hD => ?_⟩
  refine lc_go (T := T) walk_tup hD (by rw [List.length_map]; omega) (fun i acc H' => ∃ bs : List Addr, acc = bs.map V.ref ∧ All2 (OwnRow H') bs (R.take i) ∧ bs.Nodup ∧ D ∉ bs ∧ ∀ b ∈ bs, Fr0 H1 b) ⟨[], rfl, .nil, by simp, by simp, by simp⟩ (fun _ e => e.sqT hrs1) ?_ ?_
  · rintro i x acc H2 H3 hi hacc _ e ⟨bs, rfl, own, nd, nD, fr⟩ ⟨rfl, hx⟩ K1 K0 h1 h0
    rw [List.length_map] at hi
    obtain ⟨q, rfl, hq, hi'⟩ := rows_at (e.all hrows1) hx
    refine ⟨rfl, iteT (B := K0 H3) ⟨_, rfl, q, _, rfl, .inr hq, fun p hp => ?_⟩⟩
    have own_none : ∀ b ∈ bs, b ≠ p := fun b hb => by
      rintro rfl
      obtain ⟨n, hn⟩ := List.mem_iff_getElem?.mp hb
      obtain ⟨r0, _, hr0⟩ := own.get hn
      have hr0 : H3 b = some (.lst (r0.map V.int)) := hr0
      rw [hp] at hr0; cases hr0
    have npD : D ≠ p := ne_of_none hacc hp
    have e4 : Ex T H3 (upd H3 p (.lst ((R.getD i []).map V.int))) := .new hp
    refine h1 _ _ e4 ⟨bs ++ [p], by rw [List.map_append]; rfl, ?_, ?_, ?_, fun b hb => ?_⟩
    · rw [List.take_succ, show R[i]? = some (R.getD i []) by simp [hi']]
      refine own_upd (p := D) (All2.append (.cons (show OwnRow _ p _ from upd_same) .nil) (own.imp fun b r q => e4.lst q)) ?_
      simp only [List.mem_append, List.mem_singleton, not_or]
      exact ⟨nD, npD⟩
    · rw [List.nodup_append]
      exact ⟨nd, by simp, fun x hx y hy => by rw [List.mem_singleton.mp hy]; exact own_none x hx⟩
    · simp only [List.mem_append, List.mem_singleton, not_or]
      exact ⟨nD, npD⟩
    · rcases List.mem_append.mp hb with q | q
      · exact fr b q
      · rw [List.mem_singleton.mp q]; exact e.fr0 hp
  · rintro acc H2 hD2 e2 _ ⟨bs, rfl, own, nd, nD, fr⟩
    have hO2 : H2 O = some (.ins C dx [((Str.ofString "own_wide"), V.int (w' : Int))]) := e2.ext _ _ hO1 fun _ => HO.noConfusion
    refine ⟨_, rfl, O, C, dx, _, rfl, hO2, G.cls, G.rows, by show 1 < _; decide, ?_⟩
    have own : All2 (OwnRow H2) bs R := by rw [List.length_map, hrl, List.take_length] at own; exact own
    have nOb : ∀ b ∈ bs, b ≠ O := fun b hb => by
      rintro rfl
      obtain ⟨n, hn⟩ := List.mem_iff_getElem?.mp hb
      obtain ⟨r0, _, hr0⟩ := own.get hn
      have hr0 : H2 b = some (.lst (r0.map V.int)) := hr0
      rw [hO2] at hr0; cases hr0
    have nOb' : O ∉ bs := fun h => nOb O h rfl
    have nOD : O ≠ D := ne_of hO2 hD2 (by simp)
    rw [show putF (Str.ofString "own_rows") (V.ref D) [((Str.ofString "own_wide"), V.int (w' : Int))] = [((Str.ofString "own_wide"), V.int (w' : Int)), ((Str.ofString "own_rows"), V.ref D)] from rfl]
    have c2 : Ex T H0 (upd H2 O (.ins C dx [((Str.ofString "own_wide"), V.int (w' : Int)), ((Str.ofString "own_rows"), V.ref D)])) := (c1.trans e2).mut0 fO hO2 (plain_ins _ _ _)
    have own3 := own_upd (o := .ins C dx [((Str.ofString "own_wide"), V.int (w' : Int)), ((Str.ofString "own_rows"), V.ref D)]) own nOb'
    have hO3 : upd H2 O (.ins C dx [((Str.ofString "own_wide"), V.int (w' : Int)), ((Str.ofString "own_rows"), V.ref D)]) O = _ := upd_same
    have hD3 : upd H2 O (.ins C dx [((Str.ofString "own_wide"), V.int (w' : Int)), ((Str.ofString "own_rows"), V.ref D)]) D = some (.lst (bs.map V.ref)) := by rw [upd_ne nOD.symm]; exact hD2
    have frD : Fr0 H0 D := c1.fr0 hD
    have frb : ∀ b ∈ bs, Fr0 H0 b := fun b hb => (fr b hb).back c1
    generalize upd H2 O (.ins C dx [((Str.ofString "own_wide"), V.int (w' : Int)), ((Str.ofString "own_rows"), V.ref D)]) = H3 at *
    refine ⟨by show 0 ≤ _; decide, fun p1 hp1 => ?_⟩
    have e4 : Ex T H3 (upd H3 p1 (.lst [])) := .new hp1
    have hO4 := e4.ext _ _ hO3 fun _ => HO.noConfusion
    have hp14 : upd H3 p1 (.lst []) p1 = some (.lst []) := upd_same
    have n1 : D ≠ p1 := ne_of_none hD3 hp1
    have n1b : p1 ∉ bs := fun h => by
      obtain ⟨n, hn⟩ := List.mem_iff_getElem?.mp h
      obtain ⟨r0, _, hr0⟩ := own3.get hn
      have hr0 : H3 p1 = some (.lst (r0.map V.int)) := hr0
      rw [hp1] at hr0; cases hr0
    have own4 : All2 (OwnRow (upd H3 p1 (.lst []))) bs R := own3.imp fun _ _ q => e4.lst q
    have hD4 := e4.lst hD3
    have c4 := c2.trans e4
    have fr1 : Fr0 H0 p1 := c2.fr0 hp1
    generalize upd H3 p1 (.lst []) = H4 at *
    refine ⟨_, rfl, O, C, dx, _, rfl, hO4, G.cls, G.rdeeds, by show 2 < _; decide, ?_⟩
    rw [show putF (Str.ofString "row_deeds") (V.ref p1) [((Str.ofString "own_wide"), V.int (w' : Int)), ((Str.ofString "own_rows"), V.ref D)] = [((Str.ofString "own_wide"), V.int (w' : Int)), ((Str.ofString "own_rows"), V.ref D), ((Str.ofString "row_deeds"), V.ref p1)] from rfl]
    have nO1 : O ≠ p1 := ne_of hO4 hp14 (by simp)
    have c5 : Ex T H0 (upd H4 O (.ins C dx [((Str.ofString "own_wide"), V.int (w' : Int)), ((Str.ofString "own_rows"), V.ref D), ((Str.ofString "row_deeds"), V.ref p1)])) := c4.mut0 fO hO4 (plain_ins _ _ _)
    have own5 := own_upd (o := .ins C dx [((Str.ofString "own_wide"), V.int (w' : Int)), ((Str.ofString "own_rows"), V.ref D), ((Str.ofString "row_deeds"), V.ref p1)]) own4 nOb'
    have hO5 : upd H4 O (.ins C dx [((Str.ofString "own_wide"), V.int (w' : Int)), ((Str.ofString "own_rows"), V.ref D), ((Str.ofString "row_deeds"), V.ref p1)]) O = _ := upd_same
    have hD5 : upd H4 O (.ins C dx [((Str.ofString "own_wide"), V.int (w' : Int)), ((Str.ofString "own_rows"), V.ref D), ((Str.ofString "row_deeds"), V.ref p1)]) D = some (.lst (bs.map V.ref)) := by rw [upd_ne nOD.symm]; exact hD4
    have h15 : upd H4 O (.ins C dx [((Str.ofString "own_wide"), V.int (w' : Int)), ((Str.ofString "own_rows"), V.ref D), ((Str.ofString "row_deeds"), V.ref p1)]) p1 = some (.lst []) := by rw [upd_ne nO1.symm]; exact hp14
    generalize upd H4 O (.ins C dx [((Str.ofString "own_wide"), V.int (w' : Int)), ((Str.ofString "own_rows"), V.ref D), ((Str.ofString "row_deeds"), V.ref p1)]) = H5 at *
    refine ⟨by show 0 ≤ _; decide, fun p2 hp2 => ?_⟩
    have e6 : Ex T H5 (upd H5 p2 (.lst [])) := .new hp2
    refine ⟨_, rfl, O, C, dx, _, rfl, e6.ext _ _ hO5 fun _ => HO.noConfusion, G.cls, G.cdeeds, by show 3 < _; decide, ?_⟩
    have n2b : p2 ∉ bs := fun h => by
      obtain ⟨n, hn⟩ := List.mem_iff_getElem?.mp h
      obtain ⟨r0, _, hr0⟩ := own5.get hn
      have hr0 : H5 p2 = some (.lst (r0.map V.int)) := hr0
      rw [hp2] at hr0; cases hr0
    have nO2 : O ≠ p2 := ne_of_none hO5 hp2
    have own7 : All2 (OwnRow (upd (upd H5 p2 (.lst [])) O (.ins C dx (fsL w' D p1 p2)))) bs R := own_upd (own5.imp fun _ _ q => e6.lst q) nOb'
    have c7 : Ex T H0 (upd (upd H5 p2 (.lst [])) O (.ins C dx (fsL w' D p1 p2))) := (c5.trans e6).mut0 fO (e6.ext _ _ hO5 fun _ => HO.noConfusion) (plain_ins _ _ _)
    refine k _ ⟨dx, D, p1, p2, bs, [], [], ⟨upd_same, ?_, ?_, ?_, own7, .nil, .nil, ?_, fun x hx => ?_, c7⟩⟩
    · rw [upd_ne nOD.symm]; exact e6.lst hD5
    · rw [upd_ne nO1.symm]; exact e6.lst h15
    · rw [upd_ne nO2.symm]; exact upd_same
    · refine List.nodup_cons.mpr ⟨?_, List.nodup_cons.mpr ⟨?_, List.nodup_cons.mpr ⟨n2b, nd⟩⟩⟩
      · simp only [List.mem_cons, not_or]
        exact ⟨n1, ne_of_none hD5 hp2, nD⟩
      · simp only [List.mem_cons, not_or]
        exact ⟨ne_of_none h15 hp2, n1b⟩
    · simp only [List.mem_cons] at hx
      rcases hx with rfl | rfl | rfl | hx
      · exact frD
      · exact fr1
      · exact c5.fr0 hp2
      · exact frb x hx
end
end K94

set_option Elab.async false
set_option linter.all false
set_option maxRecDepth 100000
set_option maxHeartbeats 4000000
namespace K94
open PySem PySem.Spec PyProof.Rows L2
section
variable {P : Program} {w : World} {K : PySem.W.Frag} {mg : Str → Option Value} {base : Heap} {T : TabL}
/-! ### a clearing -/
theorem quot_db {x p : Int} (hp : p ≠ 0) (hx : x.natAbs ≤ 2 ^ 2001) : (0 - x.fdiv p).natAbs ≤ 2 ^ 2002 := by
  have h1 := quot_le hp hx
  have h2 : 2 ^ 2001 / p.natAbs ≤ 2 ^ 2001 := Nat.div_le_self _ _
  have h3 : (2 : Nat) ^ 2002 = 2 ^ 2001 + 2 ^ 2001 := by rw [Nat.pow_succ]; omega
  have h4 : 1 ≤ 2 ^ 2001 := Nat.pow_pos (by decide)
  rw [h3]
  generalize (2 : Nat) ^ 2001 = Z at *
  generalize Z / p.natAbs = q at *
  omega
theorem mul_db {q x : Int} (hq : q.natAbs ≤ 2 ^ 2002) (hx : x.natAbs ≤ 2 ^ 2001) : IntMulOk q x :=
  mulOk_bits (a := 2003) (b := 2002) (Nat.lt_of_le_of_lt hq (Nat.pow_lt_pow_right (by decide) (by decide))) (Nat.lt_of_le_of_lt hx (Nat.pow_lt_pow_right (by decide) (by decide))) (by decide)
section
variable {m w k a b : Nat} {R0 R R1 R2 R3 R4 : List Row} {rd cd : List Deed}
theorem part_k (h : Part m w k a k R1 R) (j : Nat) : ent R k j = ent R1 k j := by rw [h.ent, if_neg (by omega)]
theorem part_a (h : Part m w k a k R1 R) (j : Nat) : ent R a j = ent R1 a j := by rw [h.ent, if_neg (by omega)]
theorem cpart_k (h : CPart m w k b R1 R) (i : Nat) : ent R i k = ent R1 i k := by rw [h.ent, if_neg (by omega)]
theorem cpart_b (h : CPart m w k b R1 R) (i : Nat) : ent R i b = ent R1 i b := by rw [h.ent, if_neg (by omega)]
theorem St.addR (s : St m w k R0 R rd cd) (p : Part m w k a k R1 R) (hka : k < a) (ham : a < m) (hm : m ≤ 3) (ht : ent R1 k k ≠ 0) (bd : BdE (2 ^ 2001) (ent R1)) :
    St m w k R0 (rowsAd R a k (0 - (ent R1 a k).fdiv (ent R1 k k))) (dsAd rd a k (0 - (ent R1 a k).fdiv (ent R1 k k))) cd ∧ Part m w k (a + 1) k R1 (rowsAd R a k (0 - (ent R1 a k).fdiv (ent R1 k k))) := by
  unfold rowsAd dsAd
  by_cases e : 0 - (ent R1 a k).fdiv (ent R1 k k) = 0
  · rw [if_pos e, if_pos e]
    exact ⟨s, p.skip (by omega)⟩
  · rw [if_neg e, if_neg e]
    exact ⟨s.row ⟨ham, by omega, by omega⟩ ⟨by omega, Nat.le_refl _⟩ (quot_db ht (bd a k)) hm, p.step hka ham⟩
theorem St.addC (s : St m w k R0 R rd cd) (p : CPart m w k b R1 R) (hkb : k < b) (hbw : b < w) (hw : w ≤ 3) (ht : ent R1 k k ≠ 0) (bd : (ent R1 k b).natAbs ≤ 2 ^ 2001) :
    St m w k R0 (colsAd R b k (0 - (ent R1 k b).fdiv (ent R1 k k))) rd (dsAd cd b k (0 - (ent R1 k b).fdiv (ent R1 k k))) ∧ CPart m w k (b + 1) R1 (colsAd R b k (0 - (ent R1 k b).fdiv (ent R1 k k))) := by
  unfold colsAd dsAd
  by_cases e : 0 - (ent R1 k b).fdiv (ent R1 k k) = 0
  · rw [if_pos e, if_pos e]
    exact ⟨s, p.skip (by omega)⟩
  · rw [if_neg e, if_neg e]
    exact ⟨s.col ⟨hbw, by omega, by omega⟩ ⟨by omega, Nat.le_refl _⟩ (quot_db ht bd) hw, p.step hkb hbw⟩
theorem dsAd_len (ds : List Deed) (i j : Nat) (q : Int) : (dsAd ds i j q).length ≤ ds.length + 1 := by
  unfold dsAd; split <;> simp
end
open Classical in
noncomputable def cleanB (m w k : Nat) (E : Mat) : Bool := decide (Clean m w k E)
open Classical in
theorem cleanB_iff {m w k : Nat} {E : Mat} : cleanB m w k E = true ↔ Clean m w k E := by unfold cleanB; exact decide_eq_true_iff
def spClear (T : TabL) (K : PySem.W.Frag) (C : Addr) : Sp := fun vs H Q _ => ∃ (H0 : Hp) (O : Addr) (m w k : Nat) (R0 R : List Row) (rd cd : List Deed), vs = [.ref O, .int (k : Int)] ∧ LeadAt T K C H0 H O w R rd cd ∧ St m w k R0 R rd cd ∧ m ≤ 3 ∧ w ≤ 3 ∧ k < m ∧ k < w ∧ ent R k k ≠ 0 ∧ BdE (2 ^ 2001) (ent R) ∧ rd.length < 800000 ∧ cd.length < 800000 ∧
  ∀ H' R4 rd' cd', LeadAt T K C H0 H' O w R4 rd' cd' → Tups K H H' → St m w k R0 R4 rd' cd' → Clr m w k (ent R) (ent R4) → rd'.length ≤ rd.length + 2 → cd'.length ≤ cd.length + 2 → Q (.bl (cleanB m w k (ent R4))) H'
theorem sc_Leading_clear_at : FnScope ["self", "k", "top", "i", "j", "beneath", "one"] ["self", "k"] (defScope s_Leading_clear_at) := ⟨rfl, rfl, rfl, by decide +kernel, rfl, by decide +kernel, by decide +kernel⟩
theorem ok_Leading_clear_at {C : Addr} (F : Mtd K C "clear_at" "Leading.clear_at" s_Leading_clear_at) (B : Bi mg) (G : Ldg K C) (c_Leading_add_row : C8.Met P w K mg base 1 C "add_row" (spAddR T K C) []) (c_Leading_add_column : C8.Met P w K mg base 1 C "add_column" (spAddC T K C) []) : C8.Met P w K mg base 2 C "clear_at" (spClear T K C) [] := by
  refine F.met sc_Leading_clear_at (fun vs H Q E h => ?_) (fun _ _ _ _ _ _ us hl => match us, hl with | [_, _], _ => rfl) (fun f cdv A outer s H vs Q E hr h => ?_)
  · obtain ⟨H0, O, m, w', k0, R0, R, rd, cd, rfl, _⟩ := h
    rfl
  obtain ⟨H0, O, m, w', k0, R0, R, rd, cd, rfl, hl, st, hm, hw, hkm, hkw, ht, bd, hrd, hcd, k⟩ := h
  refine ⟨_,
  (pss_cons (ps_set (i := 2) sc_Leading_clear_at.nd rfl (by first | exact Or.inl rfl | exact Or.inr rfl) (pe_ix (ix_lrow K) (pe_ix (ix_l K) (pe_fldK K rfl (pv 0)) (pv 1) (fun _ _ => rfl)) (pv 1) (fun _ _ => rfl)))
  (pss_cons (ps_for PassesOwn.never rfl (pi_rgN2 rfl B.range (pa_cons (pe_op op_add (pv 1) pe_int) (pa_cons (pe_callB (call_lenN K) (by rfl) B.len PySem.boot_len (pa_cons (pe_fldK K rfl (pv 0)) pa_nil)) pa_nil))) (pg_name (i := 3) sc_Leading_clear_at.nd rfl (by first | exact Or.inl rfl | exact Or.inr rfl))
    (pss_one (ps_expr (C8.pe_mt c_Leading_add_row hr (by decide) (pv 0) (pa_cons (pv 3) (pa_cons (pv 1) (pa_cons (pe_op op_sub pe_int (pe_op op_fdivB (pe_ix (ix_lrow K) (pe_ix (ix_l K) (pe_fldK K rfl (pv 0)) (pv 3) (fun _ _ => rfl)) (pv 1) (fun _ _ => rfl)) (pv 2))) pa_nil)))))))
  (pss_cons (ps_for PassesOwn.never rfl (pi_rgN2 rfl B.range (pa_cons (pe_op op_add (pv 1) pe_int) (pa_cons (pe_fldK K rfl (pv 0)) pa_nil))) (pg_name (i := 4) sc_Leading_clear_at.nd rfl (by first | exact Or.inl rfl | exact Or.inr rfl))
    (pss_one (ps_expr (C8.pe_mt c_Leading_add_column hr (by decide) (pv 0) (pa_cons (pv 4) (pa_cons (pv 1) (pa_cons (pe_op op_sub pe_int (pe_op op_fdivB (pe_ix (ix_lrow K) (pe_ix (ix_l K) (pe_fldK K rfl (pv 0)) (pv 1) (fun _ _ => rfl)) (pv 4) (fun _ _ => rfl)) (pv 2))) pa_nil)))))))
  (pss_cons (ps_setLc (i := 5) (own := [("i", 3)]) (by rfl) sc_Leading_clear_at.nd rfl rfl (sw_true rfl rfl rfl (by decide +kernel)) (pi_rgN2 rfl B.range (pa_cons (pe_op op_add (pv 1) pe_int) (pa_cons (pe_callB (call_lenN K) (by rfl) B.len PySem.boot_len (pa_cons (pe_fldK K rfl (pv 0)) pa_nil)) pa_nil))) (blkOk_by (own := [("i", 3)]) (N := ["self", "k", "top", "i", "j", "beneath", "one"]) (sc := defScope s_Leading_clear_at) (by decide +kernel)) (fun _ _ _ _ _ => (pg_name (i := 3) sc_Leading_clear_at.nd rfl (by first | exact Or.inl rfl | exact Or.inr rfl))) (fun _ _ _ _ _ => pts_nil) (fun _ _ _ _ _ => (pe_ix (ix_lrow K) (pe_ix (ix_l K) (pe_fldK K rfl (pv 0)) (pv 3) (fun _ _ => rfl)) (pv 1) (fun _ _ => rfl))))
  (pss_one (ps_ret (pe_callB (cr_all rfl) (by rfl) B.all (by decide +kernel) (pa_cons (pe_lc (own := [("one", 6)]) (by rfl) sc_Leading_clear_at.nd (pi_lK K rfl (pe_op op_cat (pv 5) (pe_slice (sl_lK K) (pe_ix (ix_l K) (pe_fldK K rfl (pv 0)) (pv 1) (fun _ _ => rfl)) (po_some (pe_op op_add (pv 1) pe_int)) po_none))) (blkOk_by (own := [("one", 6)]) (N := ["self", "k", "top", "i", "j", "beneath", "one"]) (sc := defScope s_Leading_clear_at) (by decide +kernel)) (fun _ _ _ _ _ => (pg_name (i := 6) sc_Leading_clear_at.nd rfl (by first | exact Or.inl rfl | exact Or.inr rfl))) (fun _ _ _ _ _ => pts_nil) (fun _ _ _ _ _ => (pe_cmpR op_eq (pv 6) pe_int (nomark _)))) pa_nil)))))))), ?_⟩
  obtain ⟨dx, L, RD, CD, as, das, cas, l⟩ := id hl
  have hlen : as.length = R.length := l.rows.length
  have tab := st.led.tab
  have hml := tab.len
  obtain ⟨c, hc, hc', oc⟩ := own_at l (i := k0) (by omega)
  have oc : H c = some (.lst ((R.getD k0 []).map V.int)) := oc
  have l1 := getD_len tab (i := k0) (by omega)
  refine ⟨_, rfl, O, C, dx, _, _, rfl, l.ins, G.cls, G.rows, fs_rows, _, rfl, L, _, _, k0, _, rfl, rfl, .of l.hL, rfl, hc', _, rfl, c, R.getD k0 [], _, k0, rfl, rfl, .of oc, rfl, by omega, ?_⟩
  dsimp only [gName]
  refine ⟨_, rfl, _, _, rfl, rfl, _, rfl, O, C, dx, _, _, rfl, l.ins, G.cls, G.rows, fs_rows, ?_⟩
  refine ⟨L, _, m, rfl, .inl (.of l.hL), by rw [List.length_map]; omega, _, _, k0 + 1, m, rfl, rfl, rfl, by omega, by omega, for_it walk_N (fun t σ H' => ∃ (R2 : List Row) (rd2 : List Deed) (u3 u4 u5 u6 : Option V), LeadAt T K C H0 H' O w' R2 rd2 cd ∧ Tups K H H' ∧ St m w' k0 R0 R2 rd2 cd ∧ Part m w' k0 (k0 + 1 + t) k0 R R2 ∧ rd2.length ≤ rd.length + t ∧ σ = [some (.ref O), some (.int (k0 : Int)), some (.int (ent R k0 k0)), u3, u4, u5, u6])
    ⟨R, rd, _, _, _, _, hl, Tups.refl H, st, .start tab, by omega, rfl⟩ (fun _ _ _ _ _ => trivial) ?_ ?_⟩
  · rintro t x σ H2 H3 ht2 ⟨R2, rd2, u3, u4, u5, u6, hl2, tp, st2, pt, lr, rfl⟩ ⟨rfl, rfl⟩
    obtain ⟨dx2, L2', RD2, CD2, as2, das2, cas2, l2⟩ := id hl2
    have tab2 := st2.led.tab
    have hml2 := tab2.len
    obtain ⟨c2, hc2, hc2', oc2⟩ := own_at l2 (i := k0 + 1 + t) (by omega)
    have oc2 : H3 c2 = some (.lst ((R2.getD (k0 + 1 + t) []).map V.int)) := oc2
    have lr2 := getD_len tab2 (i := k0 + 1 + t) (by omega)
    have ek : ent R2 (k0 + 1 + t) k0 = ent R (k0 + 1 + t) k0 := part_a pt k0
    have etb : (ent R k0 k0).natAbs < 2 ^ 9000 := Nat.lt_of_le_of_lt (bd k0 k0) (Nat.pow_lt_pow_right (by decide) (by decide))
    refine ⟨_, rfl, O, dx2, _, rfl, l2.ins, by rfl, _, rfl, _, rfl, _, rfl, O, C, dx2, _, _, rfl, l2.ins, G.cls, G.rows, fs_rows, _, rfl, L2', _, _, k0 + 1 + t, _, rfl, rfl, .of l2.hL, rfl, hc2', _, rfl, c2, R2.getD (k0 + 1 + t) [], _, k0, rfl, rfl, .of oc2, rfl, by omega, _, rfl, _, _, rfl, rfl, ⟨ht, etb⟩, _, _, rfl, rfl, ?_⟩
    have e0 : rf (R2.getD (k0 + 1 + t) []) k0 = ent R (k0 + 1 + t) k0 := ek
    dsimp only [tNil]
    rw [e0]
    obtain ⟨st3, pt3⟩ := st2.addR pt (by omega) (by omega) hm ht bd
    have ld := dsAd_len rd2 (k0 + 1 + t) k0 (0 - (ent R (k0 + 1 + t) k0).fdiv (ent R k0 k0))
    refine ⟨H0, O, m, w', k0 + 1 + t, k0, _, R2, rd2, cd, rfl, hl2, tab2, by omega, hkm, by omega, fun c hc => ?_, by omega, fun H4 h4 t4 => ?_⟩
    · rw [part_k pt c]
      exact mul_db (quot_db ht (bd _ _)) (bd _ _)
    · exact ⟨_, _, _, _, _, _, h4, tp.trans t4, st3, pt3, by omega, rfl⟩
  · rintro σ H2 ⟨R2, rd2, u3, u4, u5, u6, hl2, tp, st2, pt, lr, rfl⟩
    rw [show k0 + 1 + (m - (k0 + 1)) = m by omega] at pt
    obtain ⟨dx2, L2', RD2, CD2, as2, das2, cas2, l2⟩ := id hl2
    refine ⟨_, rfl, _, _, rfl, rfl, _, rfl, O, C, dx2, _, _, rfl, l2.ins, G.cls, G.wide, fs_wide, _, _, k0 + 1, w', rfl, rfl, rfl, by omega, by omega, for_it walk_N (fun t σ H' => ∃ (R3 : List Row) (cd3 : List Deed) (u3 u4 u5 u6 : Option V), LeadAt T K C H0 H' O w' R3 rd2 cd3 ∧ Tups K H H' ∧ St m w' k0 R0 R3 rd2 cd3 ∧ CPart m w' k0 (k0 + 1 + t) R2 R3 ∧ cd3.length ≤ cd.length + t ∧ σ = [some (.ref O), some (.int (k0 : Int)), some (.int (ent R k0 k0)), u3, u4, u5, u6])
      ⟨R2, cd, _, _, _, _, hl2, tp, st2, .start st2.led.tab, by omega, rfl⟩ (fun _ _ _ _ _ => trivial) ?_ ?_⟩
    · rintro t x σ H4 H5 ht2 ⟨R3, cd3, u3, u4, u5, u6, hl3, tp3, st3, ct, lc, rfl⟩ ⟨rfl, rfl⟩
      obtain ⟨dx3, L3', RD3, CD3, as3, das3, cas3, l3⟩ := id hl3
      have tab3 := st3.led.tab
      have hml3 := tab3.len
      obtain ⟨c2, hc2, hc2', oc2⟩ := own_at l3 (i := k0) (by omega)
      have oc2 : H5 c2 = some (.lst ((R3.getD k0 []).map V.int)) := oc2
      have lr3 := getD_len tab3 (i := k0) (by omega)
      have e3k : ent R3 k0 (k0 + 1 + t) = ent R2 k0 (k0 + 1 + t) := cpart_b ct k0
      have e2k : ∀ j, ent R2 k0 j = ent R k0 j := part_k pt
      have etb : (ent R k0 k0).natAbs < 2 ^ 9000 := Nat.lt_of_le_of_lt (bd k0 k0) (Nat.pow_lt_pow_right (by decide) (by decide))
      refine ⟨_, rfl, O, dx3, _, rfl, l3.ins, by rfl, _, rfl, _, rfl, _, rfl, O, C, dx3, _, _, rfl, l3.ins, G.cls, G.rows, fs_rows, _, rfl, L3', _, _, k0, _, rfl, rfl, .of l3.hL, rfl, hc2', _, rfl, c2, R3.getD k0 [], _, k0 + 1 + t, rfl, rfl, .of oc2, rfl, by omega, _, rfl, _, _, rfl, rfl, ⟨ht, etb⟩, _, _, rfl, rfl, ?_⟩
      have e0 : rf (R3.getD k0 []) (k0 + 1 + t) = ent R2 k0 (k0 + 1 + t) := e3k
      dsimp only [tNil]
      rw [e0]
      have ht2k : ent R2 k0 k0 ≠ 0 := by rw [e2k]; exact ht
      obtain ⟨st4, ct4⟩ := st3.addC ct (by omega) (by omega) hw ht2k (by rw [e2k]; exact bd _ _)
      rw [show ent R k0 k0 = ent R2 k0 k0 from (e2k k0).symm]
      have ld := dsAd_len cd3 (k0 + 1 + t) k0 (0 - (ent R2 k0 (k0 + 1 + t)).fdiv (ent R2 k0 k0))
      refine ⟨H0, O, m, w', k0 + 1 + t, k0, _, R3, rd2, cd3, rfl, hl3, tab3, by omega, by omega, hkw, fun a ha => ?_, by omega, fun H6 h6 t6 => ?_⟩
      · rw [cpart_k ct a]
        refine mul_db (quot_db ht2k (by rw [e2k]; exact bd _ _)) ?_
        rw [pt.ent]
        split
        · have e : ent R a k0 - (ent R a k0).fdiv (ent R k0 k0) * ent R k0 k0 = (ent R a k0).fmod (ent R k0 k0) := by rw [Int.fmod_def, Int.mul_comm]
          rw [e]
          exact Nat.le_trans (Nat.le_of_lt (fmod_abs ht)) (bd _ _)
        · exact bd _ _
      · exact ⟨_, _, _, _, _, _, h6, tp3.trans t6, st4, ct4, by omega, rfl⟩
    · rintro σ H4 ⟨R3, cd3, u3, u4, u5, u6, hl3, tp3, st3, ct, lc, rfl⟩
      rw [show k0 + 1 + (w' - (k0 + 1)) = w' by omega] at ct
      have clr : Clr m w' k0 (ent R) (ent R3) := clr_of pt ct st.blk
      obtain ⟨dx3, L3', RD3, CD3, as3, das3, cas3, l3⟩ := id hl3
      have tab3 := st3.led.tab
      have hml3 := tab3.len
      refine ⟨_, rfl, _, _, rfl, rfl, _, rfl, O, C, dx3, _, _, rfl, l3.ins, G.cls, G.rows, fs_rows, ?_⟩
      refine ⟨L3', _, m, rfl, .inl (.of l3.hL), by rw [List.length_map, l3.rows.length]; omega, _, _, k0 + 1, m, rfl, rfl, rfl, by omega, by omega, fun D hD => ?_⟩
      refine lc_fn (T := T) walk_N hD (by omega) (fun i => V.int (ent R3 (k0 + 1 + i) k0)) (fun _ _ => trivial) ?_ gmono_name ?_
      · rintro i x H5 H6 hi e ⟨rfl, rfl⟩ K1 hk
        have l4 := l3.mono e
        obtain ⟨c2, hc2, hc2', oc2⟩ := own_at l4 (i := k0 + 1 + i) (by omega)
        have oc2 : H6 c2 = some (.lst ((R3.getD (k0 + 1 + i) []).map V.int)) := oc2
        have lr3 := getD_len tab3 (i := k0 + 1 + i) (by omega)
        exact ⟨rfl, _, rfl, O, C, dx3, _, _, rfl, l4.ins, G.cls, G.rows, fs_rows, _, rfl, L3', _, _, k0 + 1 + i, _, rfl, rfl, .of l4.hL, rfl, hc2', _, rfl, c2, R3.getD (k0 + 1 + i) [], _, k0, rfl, rfl, .of oc2, rfl, by omega, hk _ (.refl _)⟩
      · intro H5 hD5 e5
        have l5 := l3.mono e5
        obtain ⟨c2, hc2, hc2', oc2⟩ := own_at l5 (i := k0) (by omega)
        have oc2 : H5 c2 = some (.lst ((R3.getD k0 []).map V.int)) := oc2
        have lr3 := getD_len tab3 (i := k0) (by omega)
        have key : ((((List.range (m - (k0 + 1))).map fun i => ent R3 (k0 + 1 + i) k0) ++ (R3.getD k0 []).drop (k0 + 1)).map fun x => decide (x = 0)).all id = cleanB m w' k0 (ent R3) := by
          rw [Bool.eq_iff_iff, List.all_eq_true, cleanB_iff]
          constructor
          · intro h
            have hz : ∀ x ∈ ((List.range (m - (k0 + 1))).map fun i => ent R3 (k0 + 1 + i) k0) ++ (R3.getD k0 []).drop (k0 + 1), x = 0 := fun x hx => of_decide_eq_true (h _ (List.mem_map.mpr ⟨x, hx, rfl⟩))
            refine ⟨fun a h1 h2 => hz _ (List.mem_append_left _ (List.mem_map.mpr ⟨a - (k0 + 1), List.mem_range.mpr (by omega), by rw [show k0 + 1 + (a - (k0 + 1)) = a by omega]⟩)), fun b h1 h2 => ?_⟩
            have hb : (R3.getD k0 [])[b]? = some (ent R3 k0 b) := rf_get (by omega)
            exact hz _ (List.mem_append_right _ (List.mem_of_getElem? (i := b - (k0 + 1)) (by rw [List.getElem?_drop, show k0 + 1 + (b - (k0 + 1)) = b by omega]; exact hb)))
          · intro h x hx
            obtain ⟨y, hy, rfl⟩ := List.mem_map.mp hx
            refine decide_eq_true ?_
            rcases List.mem_append.mp hy with q | q
            · obtain ⟨i, hi, rfl⟩ := List.mem_map.mp q
              exact h.1 _ (by omega) (by have := List.mem_range.mp hi; omega)
            · obtain ⟨i, hi⟩ := List.mem_iff_getElem?.mp q
              rw [List.getElem?_drop] at hi
              have hl := (List.getElem?_eq_some_iff.mp hi).1
              have e : ent R3 k0 (k0 + 1 + i) = y := rf_at hi
              rw [← e]; exact h.2 _ (by omega) (by omega)
        have hD6 : H5 D = some (.lst (((List.range (m - (k0 + 1))).map fun i => ent R3 (k0 + 1 + i) k0).map V.int)) := by rw [hD5, List.map_map]; rfl
        dsimp only [gName]
        refine ⟨_, rfl, _, rfl, O, C, dx3, _, _, rfl, l5.ins, G.cls, G.rows, fs_rows, _, rfl, L3', _, _, k0, _, rfl, rfl, .of l5.hL, rfl, hc2', ?_⟩
        refine ⟨_, rfl, _, _, rfl, rfl, _, rfl, c2, _, rfl, .of oc2, fun p hp => ?_⟩
        rw [show ((k0 : Int) + 1) = ((k0 + 1 : Nat) : Int) by omega, cut_drop, ← List.map_drop]
        have e6 : Ex T H5 (upd H5 p (.lst (((R3.getD k0 []).drop (k0 + 1)).map V.int))) := .new hp
        have hp1 : upd H5 p (.lst (((R3.getD k0 []).drop (k0 + 1)).map V.int)) p = some (.lst (((R3.getD k0 []).drop (k0 + 1)).map V.int)) := upd_same
        have hD7 := e6.lst hD6
        generalize upd H5 p (.lst (((R3.getD k0 []).drop (k0 + 1)).map V.int)) = H6 at *
        have line : 1000000 ≤ sizeLine := by decide
        refine ⟨D, p, _, _, rfl, rfl, hD7, hp1, by simp only [List.length_map, List.length_range, List.length_drop]; omega, fun q hq => ?_⟩
        rw [← List.map_append]
        generalize hBL : ((List.range (m - (k0 + 1))).map fun i => ent R3 (k0 + 1 + i) k0) ++ (R3.getD k0 []).drop (k0 + 1) = BL at *
        have bll : BL.length ≤ 1000 := by rw [← hBL]; simp only [List.length_append, List.length_map, List.length_range, List.length_drop]; omega
        have e7 : Ex T H6 (upd H6 q (.lst (BL.map V.int))) := .new hq
        have hq1 : upd H6 q (.lst (BL.map V.int)) q = some (.lst (BL.map V.int)) := upd_same
        generalize upd H6 q (.lst (BL.map V.int)) = H7 at *
        refine ⟨q, rfl, ⟨_, .of hq1⟩, fun E' hE => ?_⟩
        refine lc_fn (T := T) walk_list hE (by rw [List.length_map]; omega) (fun j => V.bl (decide (rf BL j = 0))) (fun _ e => .of (e.lst hq1)) ?_ gmono_name ?_
        · rintro j x H8 H9 hj e ⟨rfl, hx⟩ K1 hk
          obtain ⟨n, hn, rfl⟩ := map_get hx
          refine ⟨rfl, _, rfl, rfl, ?_⟩
          rw [veq, ← rf_at hn]
          exact hk _ (.refl _)
        · intro H8 hE8 e8
          have e3 : (List.range (BL.map V.int).length).map (fun j => V.bl (decide (rf BL j = 0))) = (BL.map fun x => decide (x = 0)).map V.bl := by
            rw [List.length_map, List.map_map]
            refine List.ext_getElem? fun i => ?_
            by_cases hi : i < BL.length
            · rw [List.getElem?_map, List.getElem?_range hi, List.getElem?_map, rf_get hi]; rfl
            · rw [List.getElem?_eq_none (by simp; omega), List.getElem?_eq_none (by simp; omega)]
          rw [e3] at hE8
          refine ⟨E', _, rfl, .of hE8, ?_⟩
          rw [key]
          have eall := ((e5.trans e6).trans e7).trans e8
          exact k _ R3 rd2 cd3 (hl3.mono eall) (tp3.trans eall.tups) st3 clr (by omega) (by omega)
end
end K94

set_option Elab.async false
set_option linter.all false
set_option maxRecDepth 100000
set_option maxHeartbeats 4000000
namespace K94
open PySem PySem.Spec PyProof.Rows L2
section
variable {P : Program} {w : World} {K : PySem.W.Frag} {mg : Str → Option Value} {base : Heap} {T : TabL}
/-! ### a settling -/
theorem Wk.bdZ {m w k n : Nat} {E : Mat} (h : Wk m w k n E) : BdE (Zk k) E := by
  match k, h with
  | 0, ⟨t, h1, h2, _⟩ => exact fun a b => Nat.le_trans (h2 a b) (pow2_le (by omega))
  | 1, h => exact h.bd
  | k + 2, h => exact h.bd
theorem Zk_le (k : Nat) : Zk k ≤ 2 ^ 2001 := by
  match k with
  | 0 => exact pow2_le (by decide)
  | k + 1 => exact Nat.le_refl _
section
variable {m w k i j n L : Nat} {R0 R R1 R4 : List Row} {rd cd : List Deed}
theorem St.swR (h : St m w k R0 R rd cd) (hi : k ≤ i) (him : i < m) (hm : m ≤ 3) : St m w k R0 (rowsSw R k i) (if k = i then rd else rd ++ [.swap k i]) cd := by
  unfold rowsSw
  by_cases e : k = i
  · rw [if_pos e, if_pos e]; exact h
  · rw [if_neg e, if_neg e]; exact h.row ⟨by omega, him, e⟩ ⟨Nat.le_refl _, hi⟩ trivial hm
theorem St.swC (h : St m w k R0 R rd cd) (hi : k ≤ i) (him : i < w) (hw : w ≤ 3) : St m w k R0 (colsSw R k i) rd (if k = i then cd else cd ++ [.swap k i]) := by
  unfold colsSw
  by_cases e : k = i
  · rw [if_pos e, if_pos e]; exact h
  · rw [if_neg e, if_neg e]; exact h.col ⟨by omega, him, e⟩ ⟨Nat.le_refl _, hi⟩ trivial hw
theorem sw_len {p : Prop} [Decidable p] (d : Deed) (ds : List Deed) : (if p then ds else ds ++ [d]).length ≤ ds.length + 1 := by
  split <;> simp
theorem dvd_of_fmod {a b : Int} (h : a.fmod b = 0) : b ∣ a := by
  have := Int.fmod_add_fdiv_mul a b
  rw [h, Int.zero_add] at this
  exact ⟨a.fdiv b, by rw [Int.mul_comm]; exact this.symm⟩
theorem ent_join (t : Tab m w R) (hk : k < m) (hi : i < m) (hne : k ≠ i) : ent (rowsAd R k i 1) = undE k i (ent R) := by
  unfold rowsAd
  rw [if_neg (by decide)]
  funext a b
  rw [ent_rowsB t (d := .add k i 1) ⟨hk, hi, hne⟩]
  unfold undE entB
  dsimp only
  by_cases e : a = k
  · rw [if_pos e, if_pos e, Int.one_mul]
  · rw [if_neg e, if_neg e]
theorem St.join (h : St m w k R0 R rd cd) (hk : k < i) (hi : i < m) (hm : m ≤ 3) : St m w k R0 (rowsAd R k i 1) (dsAd rd k i 1) cd := by
  unfold rowsAd dsAd
  rw [if_neg (by decide), if_neg (by decide)]
  exact h.row ⟨by omega, hi, by omega⟩ ⟨Nat.le_refl _, by omega⟩ (Nat.le_trans (show ((1 : Int).natAbs) ≤ 1 from Nat.le_refl _) (Nat.pow_pos (by decide))) hm
theorem St.ends (h : St m w k R0 R rd cd) (hk : k < m) (hm : m ≤ 3) (cl : Clean m w k (ent R)) (z : ∀ i b, k < i → i < m → k < b → b < w → (ent R i b).fmod (ent R k k) = 0) : St m w (k + 1) R0 (rowsTu R k) (dsTu R rd k) cd := by
  have out : ∀ a b, m ≤ a ∨ w ≤ b → ent R a b = 0 := fun a b h' => by
    rcases h' with h' | h'
    · exact ent_out1 h.led.tab h'
    · exact ent_out2 h.led.tab h'
  have dv : ∀ a b, k < a → a < m → k < b → b < w → ent R k k ∣ ent R a b := fun a b h1 h2 h3 h4 => dvd_of_fmod (z a b h1 h2 h3 h4)
  unfold rowsTu dsTu
  by_cases e : ent R k k < 0
  · rw [if_pos e, if_pos e]
    have g := h.row (d := .turn k) hk (Nat.le_refl k) trivial hm
    have e2 : ent (rowsB R (.turn k)) = entB (ent R) (.turn k) := funext fun a => funext fun c => ent_rowsB h.led.tab (d := .turn k) hk a c
    exact ⟨g.led, by rw [e2]; exact blk_turn h.blk cl dv out e, g.det, g.rb, g.cb⟩
  · rw [if_neg e, if_neg e]
    exact ⟨h.led, blk_next h.blk cl dv out (by omega), h.det, h.rb, h.cb⟩
theorem BdE.turnUp {Z : Nat} (t : Tab m w R) (hk : k < m) (h : BdE Z (ent R)) : BdE Z (ent (rowsTu R k)) := by
  unfold rowsTu
  split
  · have e2 : ent (rowsB R (.turn k)) = entB (ent R) (.turn k) := funext fun a => funext fun c => ent_rowsB t (d := .turn k) hk a c
    rw [e2]
    intro a b
    unfold entB
    dsimp only
    split
    · rw [Int.natAbs_neg]; exact h _ _
    · exact h _ _
  · exact h
theorem dsTu_len (ds : List Deed) : (dsTu R ds k).length ≤ ds.length + 1 := by unfold dsTu; split <;> simp
def Cur (K : PySem.W.Frag) (H : Hp) (m w k L : Nat) (R0 R1 : List Row) (rd1 cd1 : List Deed) (n : Nat) (v : V) : Prop :=
  (v = .non ∧ St m w (k + 1) R0 R1 rd1 cd1 ∧ BdE (Zk k) (ent R1) ∧ rd1.length ≤ L ∧ cd1.length ≤ L) ∨
  ∃ p i j, v = .ref p ∧ SqT K H p [.int ((i : Nat) : Int), .int ((j : Nat) : Int)] ∧ Spot m w k (ent R1) i j ∧ St m w k R0 R1 rd1 cd1 ∧ Wk m w k n (ent R1) ∧ rd1.length + 5 * n ≤ L ∧ cd1.length + 5 * n ≤ L
theorem cur_of {K : PySem.W.Frag} {H : Hp} {v : V} (st : St m w k R0 R rd cd) (wk : Wk m w k n (ent R)) (h1 : rd.length + 5 * n ≤ L) (h2 : cd.length + 5 * n ≤ L) (l : Least K H m w k (ent R) v) : Cur K H m w k L R0 R rd cd n v := by
  have out : ∀ a b, m ≤ a ∨ w ≤ b → ent R a b = 0 := fun a b h' => by
    rcases h' with h' | h'
    · exact ent_out1 st.led.tab h'
    · exact ent_out2 st.led.tab h'
  rcases l with ⟨rfl, z⟩ | ⟨p, i, j, rfl, hp, s⟩
  · exact .inl ⟨rfl, ⟨st.led, blk_zero st.blk out z, st.det, st.rb, st.cb⟩, wk.bdZ, by omega, by omega⟩
  · exact .inr ⟨p, i, j, rfl, hp, s, st, wk, h1, h2⟩
def SetI (T : TabL) (K : PySem.W.Frag) (C : Addr) (H0 : Hp) (O : Addr) (m w k L : Nat) (R0 : List Row) (H : Hp) (n : Nat) (σ : L2.St) (H' : Hp) : Prop :=
  ∃ R1 rd1 cd1 v, LeadAt T K C H0 H' O w R1 rd1 cd1 ∧ Tups K H H' ∧ Cur K H' m w k L R0 R1 rd1 cd1 n v ∧ σ = [some (.ref O), some (.int (k : Int)), some v]
end
def spSettle (T : TabL) (K : PySem.W.Frag) (C : Addr) : Sp := fun vs H Q _ => ∃ (H0 : Hp) (O : Addr) (m w k n L : Nat) (R0 R : List Row) (rd cd : List Deed), vs = [.ref O, .int (k : Int)] ∧ LeadAt T K C H0 H O w R rd cd ∧ St m w k R0 R rd cd ∧ m ≤ 3 ∧ w ≤ 3 ∧ k < m ∧ k < w ∧ Wk m w k n (ent R) ∧ rd.length + 5 * n ≤ L ∧ cd.length + 5 * n ≤ L ∧ L ≤ 45000 ∧
  ∀ H' R4 rd' cd', LeadAt T K C H0 H' O w R4 rd' cd' → Tups K H H' → St m w (k + 1) R0 R4 rd' cd' → BdE (Zk k) (ent R4) → rd'.length ≤ L → cd'.length ≤ L → Q .non H'
theorem sc_Leading_settle : FnScope ["self", "k", "spot"] ["self", "k"] (defScope s_Leading_settle) := ⟨rfl, rfl, rfl, by decide +kernel, rfl, by decide +kernel, by decide +kernel⟩
theorem ok_Leading_settle {C : Addr} (F : Mtd K C "settle" "Leading.settle" s_Leading_settle) (B : Bi mg) (G : Ldg K C) (c_Leading_least_at : C8.Met P w K mg base 1 C "least_at" (spLeastAt T K C) []) (c_Leading_swap_rows : C8.Met P w K mg base 1 C "swap_rows" (spSwapR T K C) []) (c_Leading_swap_columns : C8.Met P w K mg base 1 C "swap_columns" (spSwapC T K C) []) (c_Leading_clear_at : C8.Met P w K mg base 2 C "clear_at" (spClear T K C) []) (c_Leading_undivided : C8.Met P w K mg base 1 C "undivided" (spUndiv T K C) []) (c_Leading_add_row : C8.Met P w K mg base 1 C "add_row" (spAddR T K C) []) (c_Leading_turn_up : C8.Met P w K mg base 1 C "turn_up" (spTurnUp T K C) []) : C8.Met P w K mg base 3 C "settle" (spSettle T K C) [] := by
  refine F.met sc_Leading_settle (fun vs H Q E h => ?_) (fun _ _ _ _ _ _ us hl => match us, hl with | [_, _], _ => rfl) (fun f cdv A outer s H vs Q E hr h => ?_)
  · obtain ⟨H0, O, m, w', k0, n0, L, R0, R, rd, cd, rfl, _⟩ := h
    rfl
  obtain ⟨H0, O, m, w', k0, n0, L, R0, R, rd, cd, rfl, hl, st, hm, hw, hkm, hkw, wk, hrd, hcd, hL, k⟩ := h
  refine ⟨_,
  (pss_cons (ps_set (i := 2) sc_Leading_settle.nd rfl (by first | exact Or.inl rfl | exact Or.inr rfl) (C8.pe_mt c_Leading_least_at hr (by decide) (pv 0) (pa_cons (pv 1) pa_nil)))
  (pss_one (ps_while PassesOwn.never (pt_cmpR op_notN (pv 2) pe_non (nomark _))
    (pss_cons (ps_expr (C8.pe_mt c_Leading_swap_rows hr (by decide) (pv 0) (pa_cons (pv 1) (pa_cons (pe_ix (ix_t K) (pv 2) pe_int (fun _ _ => rfl)) pa_nil))))
    (pss_cons (ps_expr (C8.pe_mt c_Leading_swap_columns hr (by decide) (pv 0) (pa_cons (pv 1) (pa_cons (pe_ix (ix_t K) (pv 2) pe_int (fun _ _ => rfl)) pa_nil))))
    (pss_cons (ps_set (i := 2) sc_Leading_settle.nd rfl (by first | exact Or.inl rfl | exact Or.inr rfl) pe_non)
    (pss_one (ps_if (pt_not (pt_val (C8.pe_mt c_Leading_clear_at hr (by decide) (pv 0) (pa_cons (pv 1) pa_nil))))
      (pss_one (ps_set (i := 2) sc_Leading_settle.nd rfl (by first | exact Or.inl rfl | exact Or.inr rfl) (C8.pe_mt c_Leading_least_at hr (by decide) (pv 0) (pa_cons (pv 1) pa_nil))))
      (pss_one (ps_if (pt_cmpR op_notN (C8.pe_mt c_Leading_undivided hr (by decide) (pv 0) (pa_cons (pv 1) pa_nil)) pe_non (nomark _))
        (pss_cons (ps_expr (C8.pe_mt c_Leading_add_row hr (by decide) (pv 0) (pa_cons (pv 1) (pa_cons (C8.pe_mt c_Leading_undivided hr (by decide) (pv 0) (pa_cons (pv 1) pa_nil)) (pa_cons pe_int pa_nil)))))
        (pss_one (ps_set (i := 2) sc_Leading_settle.nd rfl (by first | exact Or.inl rfl | exact Or.inr rfl) (C8.pe_mt c_Leading_least_at hr (by decide) (pv 0) (pa_cons (pv 1) pa_nil)))))
        (pss_one (ps_expr (C8.pe_mt c_Leading_turn_up hr (by decide) (pv 0) (pa_cons (pv 1) pa_nil)))))))))))))), ?_⟩
  have ins : ∀ {H' R rd cd}, LeadAt T K C H0 H' O w' R rd cd → ∃ dx L RD CD, H' O = some (.ins C dx (fsL w' L RD CD)) := fun h => by
    obtain ⟨dx, L', RD, CD, as, das, cas, l⟩ := h
    exact ⟨_, _, _, _, l.ins⟩
  obtain ⟨dx, L1, RD1, CD1, hO⟩ := ins hl
  refine ⟨_, rfl, O, dx, _, rfl, hO, by rfl, _, rfl, H0, O, m, w', k0, R, rd, cd, rfl, hl, st.led.tab, by omega, by omega, by omega, fun H1 v e1 least => ?_⟩
  dsimp only [gName]
  refine ⟨fun n σ H' => SetI T K C H0 O m w' k0 L R0 H n σ H', ⟨n0, R, rd, cd, v, hl.mono e1, e1.tups, cur_of st wk hrd hcd least, rfl⟩, ?_⟩
  rintro n σ H2 ⟨R1, rd1, cd1, v, hl1, tp1, cur, rfl⟩
  refine ⟨_, rfl, rfl, _, rfl, ite2 (fun hv => ?_) fun hv => ?_⟩
  · have hne : v ≠ .non := by simpa using hv
    rcases cur with ⟨h1, _⟩ | ⟨p, i, j, rfl, hp, s, st1, wk1, hr1, hc1⟩
    · exact absurd h1 hne
    have n1 := wk1.pos s
    have nei := s.ne
    refine ⟨fun σ' H' => _, fun _ _ h => h, ?_⟩
    obtain ⟨dx2, L2', RD2, CD2, hO2⟩ := ins hl1
    refine ⟨_, rfl, O, dx2, _, rfl, hO2, by rfl, _, rfl, _, rfl, p, _, _, 0, _, rfl, rfl, hp, rfl, rfl, ?_⟩
    dsimp only [tNil]
    refine ⟨H0, O, m, w', k0, i, R1, rd1, cd1, rfl, hl1, st1.led.tab, hkm, s.im, by omega, fun H3 l3 t3 => ?_⟩
    have st3 := st1.swR s.ki s.im hm
    obtain ⟨dx3, L3', RD3, CD3, hO3⟩ := ins l3
    refine ⟨_, rfl, O, dx3, _, rfl, hO3, by rfl, _, rfl, _, rfl, p, _, _, 1, _, rfl, rfl, t3 _ _ hp, rfl, rfl, ?_⟩
    dsimp only [tNil]
    refine ⟨H0, O, m, w', k0, j, _, _, cd1, rfl, l3, st3.led.tab, by omega, hkw, s.jw, by omega, fun H4 l4 t4 => ?_⟩
    have st4 := st3.swC s.kj s.jw hw
    have e4 : ent (colsSw (rowsSw R1 k0 i) k0 j) = swE k0 i j (ent R1) := ent_sw st1.led.tab hkm s.im hkw s.jw
    have lr := sw_len (p := k0 = i) (.swap k0 i) rd1
    have lc := sw_len (p := k0 = j) (.swap k0 j) cd1
    generalize (if k0 = i then rd1 else rd1 ++ [Deed.swap k0 i]) = rd4 at *
    generalize (if k0 = j then cd1 else cd1 ++ [Deed.swap k0 j]) = cd4 at *
    generalize colsSw (rowsSw R1 k0 i) k0 j = R4 at *
    obtain ⟨dx4, L4', RD4, CD4, hO4⟩ := ins l4
    dsimp only [gName]
    have hne4 : ent R4 k0 k0 ≠ 0 := by rw [e4, swE_kk]; exact nei
    refine ⟨_, rfl, O, dx4, _, rfl, hO4, by rfl, _, rfl, H0, O, m, w', k0, R0, R4, rd4, cd4, rfl, l4, st4, hm, hw, hkm, hkw, hne4, by rw [e4]; exact wk1.bd.sw, by omega, by omega, fun H5 R5 rd5 cd5 l5 t5 st5 clr lr5 lc5 => ?_⟩
    have hne5 : ent R5 k0 k0 ≠ 0 := by rw [clr.kk]; exact hne4
    have blk4 := st4.blk
    have det4 := st4.det
    rw [e4] at clr blk4 det4
    obtain ⟨bz, nxt⟩ := wk1.turn s clr hm hw blk4 det4 st5.det
    have tp5 := ((tp1.trans t3).trans t4).trans t5
    obtain ⟨dx5, L5', RD5, CD5, hO5⟩ := ins l5
    by_cases cl : Clean m w' k0 (ent R5)
    · rw [cleanB_iff.mpr cl]
      refine ⟨_, rfl, ?_⟩
      refine iteF ?_
      have lt5 : (ent R5 k0 k0).natAbs < 2 ^ 9000 := Nat.lt_of_le_of_lt (Nat.le_trans (bz k0 k0) (Zk_le _)) (Nat.pow_lt_pow_right (by decide) (by decide))
      refine ⟨_, rfl, O, dx5, _, rfl, hO5, by rfl, _, rfl, H0, O, m, w', k0, 0, R5, rd5, cd5, rfl, l5, st5.led.tab, by omega, by omega, hkm, hkw, hne5, lt5, fun H6 v6 e6 und => ?_⟩
      have l6 := l5.mono e6
      have tp6 := tp5.trans e6.tups
      obtain ⟨dx6, L6', RD6, CD6, hO6⟩ := ins l6
      refine ⟨rfl, _, rfl, ?_⟩
      rcases und with ⟨rfl, z⟩ | ⟨i6, rfl, k6, m6, b6, kb6, wb6, nb6⟩
      · refine iteF ?_
        refine ⟨_, rfl, O, dx6, _, rfl, hO6, by rfl, _, rfl, H0, O, m, w', k0, R5, rd5, cd5, rfl, l6, st5.led.tab, hkm, hkw, by omega, by omega, fun H7 l7 t7 => ?_⟩
        have ld := dsTu_len (R := R5) (k := k0) rd5
        exact ⟨0, by omega, _, _, cd5, .non, l7, tp6.trans t7, .inl ⟨rfl, st5.ends hkm hm cl z, bz.turnUp st5.led.tab hkm, by omega, by omega⟩, rfl⟩
      · refine iteT ?_
        refine ⟨_, rfl, O, dx6, _, rfl, hO6, by rfl, _, rfl, _, rfl, O, dx6, _, rfl, hO6, by rfl, _, rfl, H0, O, m, w', k0, 0, R5, rd5, cd5, rfl, l6, st5.led.tab, by omega, by omega, hkm, hkw, hne5, lt5, fun H7 v7 e7 und7 => ?_⟩
        rcases und7 with ⟨rfl, z⟩ | ⟨i7, rfl, k7, m7, b7, kb7, wb7, nb7⟩
        · exact absurd (z i6 b6 k6 m6 kb6 wb6) nb6
        have l7 := l6.mono e7
        dsimp only [tNil]
        refine ⟨H0, O, m, w', k0, i7, 1, R5, rd5, cd5, rfl, l7, st5.led.tab, hkm, m7, by omega, fun c _ => ?_, by omega, fun H8 l8 t8 => ?_⟩
        · exact mulOk_bits (a := 1) (b := 2002) (by decide) (Nat.lt_of_le_of_lt (Nat.le_trans (bz _ _) (Zk_le _)) (Nat.pow_lt_pow_right (by decide) (by decide))) (by decide)
        have st8 := st5.join k7 m7 hm
        have e8 := ent_join st5.led.tab hkm m7 (show k0 ≠ i7 by omega)
        obtain ⟨n', hn', wk'⟩ := nxt (ent (rowsAd R5 k0 i7 1)) (.inr ⟨cl, i7, b7, k7, m7, kb7, wb7, nb7, e8⟩)
        have ld := dsAd_len rd5 k0 i7 1
        obtain ⟨dx8, L8', RD8, CD8, hO8⟩ := ins l8
        refine ⟨_, rfl, O, dx8, _, rfl, hO8, by rfl, _, rfl, H0, O, m, w', k0, _, _, cd5, rfl, l8, st8.led.tab, by omega, by omega, by omega, fun H9 v9 e9 least9 => ?_⟩
        exact ⟨n', hn', _, _, cd5, v9, l8.mono e9, ((tp6.trans e7.tups).trans t8).trans e9.tups, cur_of st8 wk' (by omega) (by omega) least9, rfl⟩
    · have ec : cleanB m w' k0 (ent R5) = false := by
        cases q : cleanB m w' k0 (ent R5) with
        | false => rfl
        | true => exact absurd (cleanB_iff.mp q) cl
      rw [ec]
      refine ⟨_, rfl, ?_⟩
      refine iteT ?_
      obtain ⟨n', hn', wk'⟩ := nxt (ent R5) (.inl ⟨cl, rfl⟩)
      refine ⟨_, rfl, O, dx5, _, rfl, hO5, by rfl, _, rfl, H0, O, m, w', k0, R5, rd5, cd5, rfl, l5, st5.led.tab, by omega, by omega, by omega, fun H9 v9 e9 least9 => ?_⟩
      exact ⟨n', hn', R5, rd5, cd5, v9, l5.mono e9, tp5.trans e9.tups, cur_of st5 wk' (by omega) (by omega) least9, rfl⟩
  · have hv : v = .non := by simpa using hv
    rcases cur with ⟨_, st1, bd1, h1, h2⟩ | ⟨p, i, j, rfl, _⟩
    · exact k _ R1 rd1 cd1 hl1 tp1 st1 bd1 h1 h2
    · cases hv
end
end K94

set_option Elab.async false
set_option linter.all false
set_option maxRecDepth 100000
/-! M13: what a table leaves: orders, counts, numbers of deeds. -/
namespace K94
theorem part_dvd {d : Int} (hd : 0 < d) (y m : Int) : d ∣ m * y ↔ ((d.toNat / Nat.gcd d.toNat (y % d).toNat : Nat) : Int) ∣ m := by
  have h1 : d ∣ m * y ↔ d ∣ (y % d) * m := by
    have e : m * y = (y % d) * m + d * (m * (y / d)) := by
      have := Int.mul_ediv_add_emod y d
      grind
    rw [e]
    constructor
    · intro h
      have := Int.dvd_sub h (Int.dvd_mul_right d (m * (y / d)))
      rwa [Int.add_sub_cancel] at this
    · intro h; exact Int.dvd_add h (Int.dvd_mul_right _ _)
  rw [h1, dvd_iff_mul hd (n := y % d) m]
  have h2 := Int.emod_nonneg y (show d ≠ 0 by omega)
  have e : (d / (Int.gcd (y % d) d : Int)) = ((d.toNat / Nat.gcd d.toNat (y % d).toNat : Nat) : Int) := by
    have g : Int.gcd (y % d) d = Nat.gcd d.toNat (y % d).toNat := by
      unfold Int.gcd
      rw [Nat.gcd_comm, show d.natAbs = d.toNat by omega, show (y % d).natAbs = (y % d).toNat by omega]
    rw [g, Int.natCast_ediv, Int.toNat_of_nonneg (by omega)]
  rw [e]
structure OrdSt (ds : List Int) (c : Vec) (k n : Nat) : Prop where
  pos : 0 < n
  iff : ∀ m : Int, (∀ i, i < k → rf ds i ∣ m * c i) ↔ (n : Int) ∣ m
  zero : ∀ i, i < k → rf ds i = 0 → c i = 0
section
variable {ds : List Int} {c : Vec} {k n : Nat}
theorem OrdSt.start (ds : List Int) (c : Vec) : OrdSt ds c 0 1 := ⟨by decide, fun m => ⟨fun _ => Int.one_dvd m, fun _ i hi => absurd hi (Nat.not_lt_zero _)⟩, fun i hi => absurd hi (Nat.not_lt_zero _)⟩
theorem OrdSt.skip (h : OrdSt ds c k n) (hc : c k = 0) : OrdSt ds c (k + 1) n := by
  refine ⟨h.pos, fun m => ?_, fun i hi hz => ?_⟩
  · rw [← h.iff m]
    refine ⟨fun q i hi => q i (by omega), fun q i hi => ?_⟩
    by_cases e : i = k
    · subst e; rw [hc, Int.mul_zero]; exact Int.dvd_zero _
    · exact q i (by omega)
  · by_cases e : i = k
    · subst e; exact hc
    · exact h.zero i (by omega) hz
def partN (d y : Int) : Nat := d.toNat / Nat.gcd d.toNat (y % d).toNat
theorem partN_pos {d y : Int} (hd : 0 < d) : 0 < partN d y ∧ partN d y ≤ d.toNat := by
  unfold partN
  have hg : 0 < Nat.gcd d.toNat (y % d).toNat := Nat.gcd_pos_of_pos_left _ (by omega)
  exact ⟨Nat.div_pos (Nat.le_of_dvd (by omega) (Nat.gcd_dvd_left _ _)) hg, Nat.div_le_self _ _⟩
theorem OrdSt.step (h : OrdSt ds c k n) (hd : 0 < rf ds k) : OrdSt ds c (k + 1) (n * partN (rf ds k) (c k) / Nat.gcd n (partN (rf ds k) (c k))) := by
  have e : n * partN (rf ds k) (c k) / Nat.gcd n (partN (rf ds k) (c k)) = Nat.lcm n (partN (rf ds k) (c k)) := rfl
  rw [e]
  have pk := part_dvd hd (c k)
  refine ⟨Nat.lcm_pos h.pos (partN_pos hd).1, fun m => ?_, fun i hi hz => ?_⟩
  · rw [Int.ofNat_dvd_left, Nat.lcm_dvd_iff, ← Int.ofNat_dvd_left, ← Int.ofNat_dvd_left, ← h.iff m, show ((partN (rf ds k) (c k) : Nat) : Int) ∣ m ↔ rf ds k ∣ m * c k from (pk m).symm]
    refine ⟨fun q => ⟨fun i hi => q i (by omega), q k (by omega)⟩, fun q i hi => ?_⟩
    by_cases e : i = k
    · subst e; exact q.2
    · exact q.1 i (by omega)
  · by_cases e : i = k
    · subst e; omega
    · exact h.zero i (by omega) hz
theorem OrdSt.dvd (h : OrdSt ds c k n) (ch : ds.Pairwise (· ∣ ·)) (nn : ∀ d ∈ ds, 0 ≤ d) : (n : Int) ∣ lastA ds := by
  refine (h.iff _).mp fun i hi => ?_
  by_cases hl : i < ds.length
  · have hm : rf ds i ∈ ds := rf_mem hl
    by_cases hz : rf ds i = 0
    · rw [h.zero i hi hz, Int.mul_zero]; exact Int.dvd_zero _
    · have := nn _ hm
      exact Int.dvd_mul_of_dvd_left (lastA_dvd ch nn _ hm (by omega))
  · rw [h.zero i hi (rf_out (by omega)), Int.mul_zero]; exact Int.dvd_zero _
theorem lastA_mem (ds : List Int) : lastA ds = 1 ∨ lastA ds ∈ ds := by
  unfold lastA
  rcases List.eq_nil_or_concat (ds.filter fun d => decide (1 < d)) with h | ⟨l, x, h⟩
  · left; rw [h]; rfl
  · right
    rw [h, List.concat_eq_append, List.getLastD_concat]
    have : x ∈ ds.filter fun d => decide (1 < d) := by rw [h, List.concat_eq_append]; simp
    simpa using (List.mem_filter.mp this).1
end
/-- the order of a point, told -/
def OrdI (R : List Row) (x : Vec) (o : Option Int) : Prop := match o with
  | none => ∀ m : Int, m ≠ 0 → ¬ Lat R (fun j => m * x j)
  | some n => 0 < n ∧ ∀ m : Int, Lat R (fun j => m * x j) ↔ n ∣ m
section
variable {w k n : Nat} {R : List Row} {ds : List Int} {C : Vec → Vec} {x : Vec}
theorem Rnd.ord_none (h : Rnd w R ds C) (hx : Supp w x) (hk : k < w) (hz : rf ds k = 0) (hc : C x k ≠ 0) : OrdI R x none := fun m hm l => by
  have := (h.latn hx m).mp l k hk
  rw [hz, Int.zero_dvd] at this
  rcases Int.mul_eq_zero.mp this with q | q
  · exact hm q
  · exact hc q
theorem Rnd.ord_some (h : Rnd w R ds C) (hx : Supp w x) (o : OrdSt ds (C x) w n) : OrdI R x (some (n : Int)) := by
  have := o.pos
  exact ⟨by omega, fun m => by rw [h.latn hx m]; exact o.iff m⟩
end
/-! ### counts -/
theorem prodI_filter : ∀ {ds : List Int}, (∀ d ∈ ds, 0 < d) → prodI (ds.filter fun d => decide (1 < d)) = prodI ds
  | [], _ => rfl
  | d :: ds, h => by
    have h0 := h d List.mem_cons_self
    have ih := prodI_filter (ds := ds) fun x hx => h x (List.mem_cons_of_mem _ hx)
    by_cases e : 1 < d
    · rw [List.filter_cons_of_pos (by simpa using e)]
      show d * _ = d * _
      rw [ih]
    · rw [List.filter_cons_of_neg (by simpa using e), ih]
      show _ = d * _
      rw [show d = 1 by omega, Int.one_mul]
theorem filter_len : ∀ (ds : List Int), (ds.filter fun d => decide (0 < d)).length ≤ ds.length := fun ds => List.length_filter_le _ _
theorem full_iff {w : Nat} {ds : List Int} (hl : ds.length ≤ w) : (ds.filter fun d => decide (0 < d)).length = w ↔ Full w ds := by
  constructor
  · intro h
    have h1 := filter_len ds
    have h2 : (ds.filter fun d => decide (0 < d)).length = ds.length := by omega
    rw [List.length_filter_eq_length_iff] at h2
    exact ⟨by omega, fun d hd => of_decide_eq_true (h2 d hd)⟩
  · rintro ⟨h1, h2⟩
    have : (ds.filter fun d => decide (0 < d)).length = ds.length := List.length_filter_eq_length_iff.mpr fun d hd => decide_eq_true (h2 d hd)
    omega
/-- the product of the shared parts with the numbers above nought -/
def gpos (n : Int) (ds : List Int) : Int := gprod n (ds.filter fun d => decide (0 < d))
theorem gpos_full {n : Int} {ds : List Int} (h : ∀ d ∈ ds, 0 < d) : gpos n ds = gprod n ds := by
  unfold gpos
  rw [List.filter_eq_self.mpr fun d hd => decide_eq_true (h d hd)]
/-! ### numbers of deeds' tables -/
theorem entB_bd {E : Mat} {d : Deed} {Z : Nat} (h : BdE Z E) (hd : DB d) : BdE (2 ^ 2003 * Z) (entB E d) := by
  have h1 : 1 ≤ 2 ^ 2002 := Nat.pow_pos (by decide)
  have h2 : (2 : Nat) ^ 2003 = 2 ^ 2002 + 2 ^ 2002 := by rw [Nat.pow_succ]; omega
  have h3 : Z ≤ 2 ^ 2003 * Z := by
    have := Nat.mul_le_mul_right Z (show 1 ≤ 2 ^ 2003 by omega)
    rwa [Nat.one_mul] at this
  intro a b
  unfold entB
  cases d with
  | swap i j =>
    dsimp only
    split
    · exact Nat.le_trans (h _ _) h3
    · split
      · exact Nat.le_trans (h _ _) h3
      · exact Nat.le_trans (h _ _) h3
  | turn i =>
    dsimp only
    split
    · rw [Int.natAbs_neg]; exact Nat.le_trans (h _ _) h3
    · exact Nat.le_trans (h _ _) h3
  | add i j q =>
    dsimp only
    split
    · have g1 := mul_le (show q.natAbs ≤ 2 ^ 2002 from hd) (h j b)
      have g2 := h i b
      have g3 : Z ≤ 2 ^ 2002 * Z := by
        have := Nat.mul_le_mul_right Z h1
        rwa [Nat.one_mul] at this
      have g4 : 2 ^ 2003 * Z = 2 ^ 2002 * Z + 2 ^ 2002 * Z := by rw [h2, Nat.add_mul]
      rw [g4]
      generalize 2 ^ 2002 * Z = u at *
      generalize q * E j b = v at *
      omega
    · exact Nat.le_trans (h _ _) h3
theorem rowsD_bd {m : Nat} : ∀ {ds : List Deed} {R : List Row} {Z : Nat}, Tab m m R → (∀ d ∈ ds, DeedOk m d) → (∀ d ∈ ds, DB d) → BdE Z (ent R) → BdE ((2 ^ 2003) ^ ds.length * Z) (ent (rowsD R ds))
  | [], R, Z, _, _, _, h => by
    show BdE _ (ent R)
    intro a b
    have := h a b
    simpa using this
  | d :: ds, R, Z, t, ok, db, h => by
    have ok0 := ok d List.mem_cons_self
    have e : ent (rowsB R d) = entB (ent R) d := funext fun a => funext fun c => ent_rowsB t ok0 a c
    have h1 : BdE (2 ^ 2003 * Z) (ent (rowsB R d)) := by rw [e]; exact entB_bd h (db d List.mem_cons_self)
    have ih := rowsD_bd (ds := ds) (t.rowsB ok0) (fun x hx => ok x (List.mem_cons_of_mem _ hx)) (fun x hx => db x (List.mem_cons_of_mem _ hx)) h1
    intro a b
    have := ih a b
    have e2 : (2 ^ 2003) ^ (d :: ds).length * Z = (2 ^ 2003) ^ ds.length * (2 ^ 2003 * Z) := by
      rw [List.length_cons, Nat.pow_succ, Nat.mul_assoc]
    rw [e2]
    exact this
theorem unit_bd (m : Nat) : BdE 1 (ent (unitRows m)) := fun a b => by
  by_cases ha : a < m
  · rw [ent_unit ha]; unfold eV; split <;> decide
  · rw [ent_out1 (unit_tab m) (by omega)]; decide
theorem deeds_bits {m : Nat} {ds : List Deed} (ok : ∀ d ∈ ds, DeedOk m d) (db : ∀ d ∈ ds, DB d) (a b : Nat) : (ent (rowsD (unitRows m) ds) a b).natAbs < 2 ^ (2003 * ds.length + 1) := by
  have h := rowsD_bd (unit_tab m) ok db (unit_bd m) a b
  rw [Nat.mul_one, ← Nat.pow_mul] at h
  exact Nat.lt_of_le_of_lt h (Nat.pow_lt_pow_right (by decide) (by omega))
theorem backDB {ds : List Deed} (db : ∀ d ∈ ds, DB d) : ∀ d ∈ ds.reverse.map invD, DB d := fun d hd => by
  obtain ⟨x, hx, rfl⟩ := List.mem_map.mp hd
  have := db x (List.mem_reverse.mp hx)
  cases x with
  | swap i j => trivial
  | turn i => trivial
  | add i j q =>
    show (-q).natAbs ≤ _
    rw [Int.natAbs_neg]; exact this
theorem backOk {m : Nat} {ds : List Deed} (ok : ∀ d ∈ ds, DeedOk m d) : ∀ d ∈ ds.reverse.map invD, DeedOk m d := fun d hd => by
  obtain ⟨x, hx, rfl⟩ := List.mem_map.mp hd
  exact invD_ok (ok x (List.mem_reverse.mp hx))
/-! ### the turns' numbers -/
def nk : Nat → Nat
  | 0 => 100
  | 1 => 8074
  | _ => 1
def Lk : Nat → Nat
  | 0 => 0
  | 1 => 500
  | 2 => 40870
  | _ => 40875
def Bk : Nat → Nat
  | 0 => 50
  | k + 1 => Zk k
theorem Lk_step {k : Nat} (h : k < 3) : Lk k + 5 * nk k ≤ Lk (k + 1) ∧ Lk (k + 1) ≤ 45000 := by
  rcases (show k = 0 ∨ k = 1 ∨ k = 2 by omega) with rfl | rfl | rfl <;> decide
theorem Wk.start {m w k : Nat} {E : Mat} (h : BdE (Bk k) E) : Wk m w k (nk k) E := by
  match k, h with
  | 0, h => exact .start0 h
  | 1, h => exact .start1 h
  | k + 2, h => exact .start2 h
theorem Bk_le (k : Nat) : Bk k ≤ 2 ^ 2001 := by
  match k with
  | 0 => exact Nat.le_trans (show 50 ≤ 2 ^ 6 by decide) (pow2_le (by decide))
  | 1 => exact pow2_le (by decide)
  | k + 2 => exact Nat.le_refl _
theorem Lk_le {k : Nat} (h : k ≤ 3) : Lk k ≤ 45000 := by
  rcases (show k = 0 ∨ k = 1 ∨ k = 2 ∨ k = 3 by omega) with rfl | rfl | rfl | rfl <;> decide
end K94

set_option Elab.async false
set_option linter.all false
set_option maxRecDepth 100000
set_option maxHeartbeats 4000000
namespace K94
open PySem PySem.Spec PyProof.Rows L2
section
variable {P : Program} {w : World} {K : PySem.W.Frag} {mg : Str → Option Value} {base : Heap} {T : TabL}
/-! ### led to rounds -/
theorem min_int (w m : Nat) : (if (m : Int) < (w : Int) then (m : Int) else (w : Int)) = ((min w m : Nat) : Int) := by split <;> omega
structure Rounded (m w : Nat) (R R4 : List Row) (rd cd : List Deed) : Prop where
  led : Led m w R R4 rd cd
  diag : Diag m w R4
  bd : BdE (2 ^ 2001) (ent R4)
  rb : ∀ d ∈ rd, DB d
  cb : ∀ d ∈ cd, DB d
  rl : rd.length ≤ 45000
  cl : cd.length ≤ 45000
def spLed (T : TabL) (K : PySem.W.Frag) (C : Addr) : Sp := fun vs H Q _ => ∃ (a : Addr) (m w : Nat) (R : List Row), vs = [.ref a] ∧ TabAt K H a w R ∧ Tab m w R ∧ Bd 50 R ∧ m ≤ 3 ∧ w ≤ 3 ∧
  ∀ H' O R4 rd cd, LeadAt T K C H H' O w R4 rd cd → Rounded m w R R4 rd cd → Q (.ref O) H'
theorem sc_led_to_rounds : FnScope ["table", "found", "k"] ["table"] (defScope s_led_to_rounds) := ⟨rfl, rfl, rfl, by decide +kernel, rfl, by decide +kernel, by decide +kernel⟩
theorem ok_led_to_rounds (F : Def K mg "led_to_rounds" s_led_to_rounds) (B : Bi mg) {C : Addr} (G : Ldg K C) (c_Leading_init : C8.Mak P w K mg base 1 "Leading" C (spInit T K C) []) (c_Leading_settle : C8.Met P w K mg base 3 C "settle" (spSettle T K C) []) : C8.Cal P w K mg base 4 "led_to_rounds" (spLed T K C) [] := by
  refine F.cal sc_led_to_rounds (fun vs H Q E h => ?_) (fun _ _ _ _ _ _ us hl => match us, hl with | [_], _ => rfl) (fun f cdv A outer s H vs Q E hr h => ?_)
  · obtain ⟨a, m, w', R, rfl, _⟩ := h
    rfl
  obtain ⟨a, m, w', R, rfl, hat, tab, bd, hm, hw, k⟩ := h
  obtain ⟨b, hta, rs, hrs, hrows⟩ := id hat
  refine ⟨_,
  (pss_cons (ps_set (i := 1) sc_led_to_rounds.nd rfl (by first | exact Or.inl rfl | exact Or.inr rfl) (C8.pe_mk c_Leading_init hr (by decide) rfl (pa_cons (pv 0) pa_nil)))
  (pss_cons (ps_for PassesOwn.never rfl (pi_rgN rfl B.range (pa_cons (pe_callB (call_min2 rfl) (by rfl) B.min (by decide +kernel) (pa_cons (pe_ix (ix_t K) (pv 0) pe_int (fun _ _ => rfl)) (pa_cons (pe_callB (call_lenN K) (by rfl) B.len PySem.boot_len (pa_cons (pe_ix (ix_t K) (pv 0) pe_int (fun _ _ => rfl)) pa_nil)) pa_nil))) pa_nil)) (pg_name (i := 2) sc_led_to_rounds.nd rfl (by first | exact Or.inl rfl | exact Or.inr rfl))
    (pss_one (ps_expr (C8.pe_mt c_Leading_settle hr (by decide) (pv 1) (pa_cons (pv 2) pa_nil)))))
  (pss_one (ps_ret (pv 1))))), ?_⟩
  have lr : rs.length = m := by rw [hrows.length, tab.len]
  refine ⟨_, rfl, fun O dx hO hdx hne => ?_⟩
  have e1 : Ex T H (upd H dx (.own O)) := .new hdx
  have e2 : Ex T H (upd (upd H dx (.own O)) O (.ins C dx [])) := e1.trans (.new (by rw [upd_ne hne.symm]; exact hO))
  refine ⟨H, O, dx, a, m, w', R, rfl, upd_same, e2, .of hO, e2.tab hat, tab, by omega, fun H1 l0 => ⟨rfl, ?_⟩⟩
  obtain ⟨dx0, L0, RD0, CD0, as0, das0, cas0, ll0⟩ := id l0
  have ex0 := ll0.ex
  dsimp only [gName]
  refine ⟨_, rfl, a, _, _, 0, _, rfl, rfl, ex0.sqT hta, rfl, rfl, _, rfl, a, _, _, 1, _, rfl, rfl, ex0.sqT hta, rfl, rfl, b, _, m, rfl, .inr (ex0.sqT hrs), by rw [List.length_map, lr], _, _, rfl, _, min w' m, rfl, by rw [min_int], by omega, ?_⟩
  refine for_it walk_N0 (fun i σ H' => ∃ (R1 : List Row) (rd1 cd1 : List Deed) (u : Option V), LeadAt T K C H H' O w' R1 rd1 cd1 ∧ St m w' i R R1 rd1 cd1 ∧ BdE (Bk i) (ent R1) ∧ rd1.length ≤ Lk i ∧ cd1.length ≤ Lk i ∧ σ = [some (.ref a), some (.ref O), u])
    ⟨R, [], [], _, l0, .start tab bd, bd, Nat.zero_le _, Nat.zero_le _, rfl⟩ (fun _ _ _ _ _ => trivial) ?_ ?_
  · rintro i x σ H2 H3 hi ⟨R1, rd1, cd1, u, l1, st1, bd1, hr1, hc1, rfl⟩ ⟨rfl, rfl⟩
    have hs := Lk_step (k := i) (by omega)
    obtain ⟨dx1, L1, RD, CD, as, das, cas, ll⟩ := id l1
    refine ⟨_, rfl, O, dx1, _, rfl, ll.ins, by rfl, _, rfl, ?_⟩
    refine ⟨H, O, m, w', i, nk i, Lk (i + 1), R, R1, rd1, cd1, rfl, l1, st1, hm, hw, by omega, by omega, .start bd1, by omega, by omega, hs.2, fun H4 R4 rd4 cd4 l4 _ st4 bd4 hr4 hc4 => ?_⟩
    exact ⟨R4, rd4, cd4, _, l4, st4, bd4, hr4, hc4, rfl⟩
  · rintro σ H2 ⟨R1, rd1, cd1, u, l1, st1, bd1, hr1, hc1, rfl⟩
    refine ⟨_, rfl, k _ _ _ _ _ l1 ⟨st1.led, Blk.diag st1.led.tab st1.blk, fun a b => Nat.le_trans (bd1 a b) (Bk_le _), st1.rb, st1.cb, Nat.le_trans hr1 (Lk_le (by omega)), Nat.le_trans hc1 (Lk_le (by omega))⟩⟩
def spRounds (T : TabL) (K : PySem.W.Frag) : Sp := fun vs H Q _ => ∃ (a : Addr) (m w : Nat) (R : List Row), vs = [.ref a] ∧ TabAt K H a w R ∧ Tab m w R ∧ Bd 50 R ∧ m ≤ 3 ∧ w ≤ 3 ∧
  ∀ H' p R4 rd cd, Ex T H H' → TabAt K H' p w R4 → Rounded m w R R4 rd cd → Q (.ref p) H'
theorem sc_rounds_of : FnScope ["table"] ["table"] (defScope s_rounds_of) := ⟨rfl, rfl, rfl, by decide +kernel, rfl, by decide +kernel, by decide +kernel⟩
theorem ok_rounds_of (F : Def K mg "rounds_of" s_rounds_of) (B : Bi mg) {C : Addr} (G : Ldg K C) (c_Leading_form_now : C8.Met P w K mg base 1 C "form_now" (spFormNow T K C) []) (c_led_to_rounds : C8.Cal P w K mg base 4 "led_to_rounds" (spLed T K C) []) : C8.Cal P w K mg base 5 "rounds_of" (spRounds T K) [] := by
  refine F.cal sc_rounds_of (fun vs H Q E h => ?_) (fun _ _ _ _ _ _ us hl => match us, hl with | [_], _ => rfl) (fun f cdv A outer s H vs Q E hr h => ?_)
  · obtain ⟨a, m, w', R, rfl, _⟩ := h
    rfl
  obtain ⟨a, m, w', R, rfl, hat, tab, bd, hm, hw, k⟩ := h
  refine ⟨_,
  (pss_one (ps_ret (C8.pe_mt0 c_Leading_form_now hr (by decide) (C8.pe_c c_led_to_rounds hr (by decide) rfl (pa_cons (pv 0) pa_nil))))), ?_⟩
  refine ⟨_, rfl, a, m, w', R, rfl, hat, tab, bd, hm, hw, fun H1 O R4 rd cd l rr => ?_⟩
  obtain ⟨dx, L, RD, CD, as, das, cas, ll⟩ := id l
  exact ⟨O, dx, _, rfl, ll.ins, by rfl, H, O, m, w', R4, rd, cd, rfl, l, rr.led.tab, by omega, fun H2 p e2 h2 => k _ p R4 rd cd (ll.ex.trans e2) h2 rr⟩
/-! ### a rounds paper -/
theorem doneOk_unit {m : Nat} {ds : List Deed} (ok : ∀ d ∈ ds, DeedOk m d) (db : ∀ d ∈ ds, DB d) (hl : ds.length ≤ 45000) : DoneOk m (unitRows m) ds := ⟨ok, fun i d hd => by
  have hm := List.mem_of_getElem? hd
  have hi := (List.getElem?_eq_some_iff.mp hd).1
  cases d with
  | swap a b => trivial
  | turn a => trivial
  | add a b q =>
    intro c _
    have hq : q.natAbs ≤ 2 ^ 2002 := db _ hm
    have h1 := deeds_bits (ds := ds.take i) (fun d hd => ok d (List.mem_of_mem_take hd)) (fun d hd => db d (List.mem_of_mem_take hd)) b c
    rw [List.length_take, Nat.min_eq_left (by omega)] at h1
    exact mulOk_bits (a := 2003) (b := 2003 * i + 1) (Nat.lt_of_le_of_lt hq (Nat.pow_lt_pow_right (by decide) (by decide))) h1 (by omega)⟩
def spPaper (T : TabL) (K : PySem.W.Frag) : Sp := fun vs H Q _ => ∃ (a : Addr) (m w : Nat) (R : List Row), vs = [.ref a] ∧ TabAt K H a w R ∧ Tab m w R ∧ Bd 50 R ∧ m ≤ 3 ∧ w ≤ 3 ∧
  ∀ H' p f l lb r rb R4 rd cd, Ex T H H' → SqT K H' p [.str (Str.ofString "rounds"), .ref f, .ref l, .ref lb, .ref r, .ref rb] → TabAt K H' f w R4 → TabAt K H' r w (overL w (rowsD (unitRows w) cd)) → Rounded m w R R4 rd cd → Q (.ref p) H'
theorem sc_rounds_paper : FnScope ["table", "found", "by_rows", "by_columns", "left", "left_back", "right", "right_back"] ["table"] (defScope s_rounds_paper) := ⟨rfl, rfl, rfl, by decide +kernel, rfl, by decide +kernel, by decide +kernel⟩
theorem ok_rounds_paper (F : Def K mg "rounds_paper" s_rounds_paper) (B : Bi mg) {C : Addr} (G : Ldg K C) (c_Leading_form_now : C8.Met P w K mg base 1 C "form_now" (spFormNow T K C) []) (c_led_to_rounds : C8.Cal P w K mg base 4 "led_to_rounds" (spLed T K C) []) (c_deeds_table : C8.Cal P w K mg base 6 "deeds_table" (spDeeds T K) []) (c_led_back : C8.Cal P w K mg base 2 "led_back" (spBack T K) []) (c_turned_over : C8.Cal P w K mg base 2 "turned_over" (spOver T K) []) : C8.Cal P w K mg base 7 "rounds_paper" (spPaper T K) [] := by
  refine F.cal sc_rounds_paper (fun vs H Q E h => ?_) (fun _ _ _ _ _ _ us hl => match us, hl with | [_], _ => rfl) (fun f cdv A outer s H vs Q E hr h => ?_)
  · obtain ⟨a, m, w', R, rfl, _⟩ := h
    rfl
  obtain ⟨a, m, w', R, rfl, hat, tab, bd, hm, hw, k⟩ := h
  obtain ⟨b, hta, rs, hrs, hrows⟩ := id hat
  refine ⟨_,
  (pss_cons (ps_set (i := 1) sc_rounds_paper.nd rfl (by first | exact Or.inl rfl | exact Or.inr rfl) (C8.pe_c c_led_to_rounds hr (by decide) rfl (pa_cons (pv 0) pa_nil)))
  (pss_cons (ps_set (i := 2) sc_rounds_paper.nd rfl (by first | exact Or.inl rfl | exact Or.inr rfl) (pe_callTy (call_tupK K) (by rfl) B.tuple (by decide +kernel) (pa_cons (pe_fldK K rfl (pv 1)) pa_nil)))
  (pss_cons (ps_set (i := 3) sc_rounds_paper.nd rfl (by first | exact Or.inl rfl | exact Or.inr rfl) (pe_callTy (call_tupK K) (by rfl) B.tuple (by decide +kernel) (pa_cons (pe_fldK K rfl (pv 1)) pa_nil)))
  (pss_cons (ps_set (i := 4) sc_rounds_paper.nd rfl (by first | exact Or.inl rfl | exact Or.inr rfl) (C8.pe_c c_deeds_table hr (by decide) rfl (pa_cons (pe_callB (call_lenN K) (by rfl) B.len PySem.boot_len (pa_cons (pe_ix (ix_t K) (pv 0) pe_int (fun _ _ => rfl)) pa_nil)) (pa_cons (pv 2) pa_nil))))
  (pss_cons (ps_set (i := 5) sc_rounds_paper.nd rfl (by first | exact Or.inl rfl | exact Or.inr rfl) (C8.pe_c c_deeds_table hr (by decide) rfl (pa_cons (pe_callB (call_lenN K) (by rfl) B.len PySem.boot_len (pa_cons (pe_ix (ix_t K) (pv 0) pe_int (fun _ _ => rfl)) pa_nil)) (pa_cons (C8.pe_c c_led_back hr (by decide) rfl (pa_cons (pv 2) pa_nil)) pa_nil))))
  (pss_cons (ps_set (i := 6) sc_rounds_paper.nd rfl (by first | exact Or.inl rfl | exact Or.inr rfl) (C8.pe_c c_turned_over hr (by decide) rfl (pa_cons (C8.pe_c c_deeds_table hr (by decide) rfl (pa_cons (pe_ix (ix_t K) (pv 0) pe_int (fun _ _ => rfl)) (pa_cons (pv 3) pa_nil))) pa_nil)))
  (pss_cons (ps_set (i := 7) sc_rounds_paper.nd rfl (by first | exact Or.inl rfl | exact Or.inr rfl) (C8.pe_c c_turned_over hr (by decide) rfl (pa_cons (C8.pe_c c_deeds_table hr (by decide) rfl (pa_cons (pe_ix (ix_t K) (pv 0) pe_int (fun _ _ => rfl)) (pa_cons (C8.pe_c c_led_back hr (by decide) rfl (pa_cons (pv 3) pa_nil)) pa_nil))) pa_nil)))
  (pss_one (ps_ret (pe_tup (pa_cons pe_str (pa_cons (C8.pe_mt0 c_Leading_form_now hr (by decide) (pv 1)) (pa_cons (pv 4) (pa_cons (pv 5) (pa_cons (pv 6) (pa_cons (pv 7) pa_nil)))))))))))))))), ?_⟩
  have lr : rs.length = m := by rw [hrows.length, tab.len]
  refine ⟨_, rfl, a, m, w', R, rfl, hat, tab, bd, hm, hw, fun H1 O R4 rd cd l rr => ?_⟩
  obtain ⟨dx, L, RD, CD, as, das, cas, ll⟩ := id l
  have ok1 := doneOk_unit rr.led.rok rr.rb rr.rl
  have ok2 := doneOk_unit rr.led.cok rr.cb rr.cl
  have okb1 : DoneOk m (unitRows m) (backL rd) := doneOk_unit (backOk rr.led.rok) (backDB rr.rb) (by simpa [backL] using rr.rl)
  have okb2 : DoneOk w' (unitRows w') (backL cd) := doneOk_unit (backOk rr.led.cok) (backDB rr.cb) (by simpa [backL] using rr.cl)
  have hrl := rr.rl
  have hcl := rr.cl
  dsimp only [gName]
  refine ⟨_, rfl, O, C, dx, _, _, rfl, ll.ins, G.cls, G.rdeeds, fs_rdeeds, RD, _, rfl, .inl ⟨.of ll.hRD, fun p1 hp1 => ?_⟩⟩
  have e2 : Ex T H1 (upd H1 p1 (.tup (das.map V.ref))) := .new hp1
  have s1 : SqT K (upd H1 p1 (.tup (das.map V.ref))) p1 (das.map V.ref) := sqT_of upd_same
  generalize upd H1 p1 (.tup (das.map V.ref)) = H2 at *
  have l2 := ll.mono e2
  dsimp only [gName]
  refine ⟨_, rfl, O, C, dx, _, _, rfl, l2.ins, G.cls, G.cdeeds, fs_cdeeds, CD, _, rfl, .inl ⟨.of l2.hCD, fun p2 hp2 => ?_⟩⟩
  have e3 : Ex T H2 (upd H2 p2 (.tup (cas.map V.ref))) := .new hp2
  have s2 : SqT K (upd H2 p2 (.tup (cas.map V.ref))) p2 (cas.map V.ref) := sqT_of upd_same
  generalize upd H2 p2 (.tup (cas.map V.ref)) = H3 at *
  have l3 := l2.mono e3
  have s13 := e3.sqT s1
  have x3 := l3.ex
  have d1 := l3.rds
  have d2 := l3.cds
  dsimp only [gName]
  refine ⟨_, rfl, a, _, _, 1, _, rfl, rfl, x3.sqT hta, rfl, rfl, b, _, m, rfl, .inr (x3.sqT hrs), by rw [List.length_map, lr], _, rfl, p1, das, m, rd, rfl, s13, d1, ok1, by omega, fun H4 q4 e4 t4 => ?_⟩
  have x4 := x3.trans e4
  dsimp only [gName]
  refine ⟨_, rfl, a, _, _, 1, _, rfl, rfl, x4.sqT hta, rfl, rfl, b, _, m, rfl, .inr (x4.sqT hrs), by rw [List.length_map, lr], _, rfl, p1, das, rd, rfl, e4.sqT s13, e4.deeds d1, by omega, fun H5 b5 as5 e5 s5 d5 => ?_⟩
  refine ⟨b5, as5, m, backL rd, rfl, s5, d5, okb1, by omega, fun H6 q6 e6 t6 => ?_⟩
  have x6 := (x4.trans e5).trans e6
  have e46 := (e4.trans e5).trans e6
  dsimp only [gName]
  refine ⟨_, rfl, a, _, _, 0, _, rfl, rfl, x6.sqT hta, rfl, rfl, _, rfl, p2, cas, w', cd, rfl, e46.sqT s2, e46.deeds d2, ok2, by omega, fun H7 q7 e7 t7 => ?_⟩
  refine ⟨q7, w', w', _, rfl, t7, (unit_tab w').rowsD rr.led.cok, by omega, by omega, fun H8 q8 e8 t8 => ?_⟩
  have x8 := (x6.trans e7).trans e8
  have e48 := (e46.trans e7).trans e8
  dsimp only [gName]
  refine ⟨_, rfl, a, _, _, 0, _, rfl, rfl, x8.sqT hta, rfl, rfl, _, rfl, p2, cas, cd, rfl, e48.sqT s2, e48.deeds d2, by omega, fun H9 b9 as9 e9 s9 d9 => ?_⟩
  refine ⟨b9, as9, w', backL cd, rfl, s9, d9, okb2, by omega, fun H10 q10 e10 t10 => ?_⟩
  refine ⟨q10, w', w', _, rfl, t10, (unit_tab w').rowsD (backOk rr.led.cok), by omega, by omega, fun H11 q11 e11 t11 => ?_⟩
  have e811 := (e9.trans e10).trans e11
  have e411 := e48.trans e811
  have l11 := l3.mono e411
  dsimp only [gName]
  refine ⟨_, rfl, O, dx, _, rfl, l11.ins, by rfl, H, O, m, w', R4, rd, cd, rfl, ⟨_, _, _, _, _, _, _, l11⟩, rr.led.tab, by omega, fun H12 q12 e12 t12 => ?_⟩
  refine ⟨_, rfl, _, rfl, _, rfl, _, rfl, by show 6 ≤ _; decide, fun p hp => ?_⟩
  have e13 : Ex T H12 (upd H12 p (.tup [.str (Str.ofString "rounds"), .ref q12, .ref q4, .ref q6, .ref q8, .ref q11])) := .new hp
  exact k _ p q12 q4 q6 q8 q11 R4 rd cd ((l11.ex.trans e12).trans e13) (sqT_of upd_same) (e13.tab t12) ((e811.trans (e12.trans e13)).tab t8) rr
end
end K94

set_option Elab.async false
set_option linter.all false
set_option maxRecDepth 100000
set_option maxHeartbeats 4000000
namespace K94
open PySem PySem.Spec PyProof.Rows L2
section
variable {P : Program} {w : World} {K : PySem.W.Frag} {mg : Str → Option Value} {base : Heap} {T : TabL}
/-! ### numbers on the way down, places -/
theorem downsL_len (m w : Nat) (R : List Row) : (downsL m w R).length = min w m := by simp [downsL]
def spDowns (T : TabL) (K : PySem.W.Frag) : Sp := fun vs H Q _ => ∃ (a : Addr) (m w : Nat) (R : List Row), vs = [.ref a] ∧ TabAt K H a w R ∧ Tab m w R ∧ m ≤ 1000 ∧ w ≤ 1000 ∧ GiveR T K H Q (downsL m w R)
theorem sc_downs_of : FnScope ["form", "wide", "rows", "k"] ["form"] (defScope s_downs_of) := ⟨rfl, rfl, rfl, by decide +kernel, rfl, by decide +kernel, by decide +kernel⟩
theorem ok_downs_of (F : Def K mg "downs_of" s_downs_of) (B : Bi mg)  : C8.Cal P w K mg base 1 "downs_of" (spDowns T K) [] := by
  refine F.cal sc_downs_of (fun vs H Q E h => ?_) (fun _ _ _ _ _ _ us hl => match us, hl with | [_], _ => rfl) (fun f cdv A outer s H vs Q E hr h => ?_)
  · obtain ⟨a, m, w', R, rfl, _⟩ := h
    rfl
  obtain ⟨a, m, w', R, rfl, ⟨b, hta, rs, hrs, hrows⟩, tab, hm, hw, k⟩ := h
  refine ⟨_,
  (pss_cons (ps_asg (pv 0) (pg_tK K rfl (n := 2) (pgs_cons (pg_name (i := 1) sc_downs_of.nd rfl (by first | exact Or.inl rfl | exact Or.inr rfl)) (pgs_cons (pg_name (i := 2) sc_downs_of.nd rfl (by first | exact Or.inl rfl | exact Or.inr rfl)) pgs_nil))))
  (pss_one (ps_ret (pe_callTy (call_tupK K) (by rfl) B.tuple (by decide +kernel) (pa_cons (pe_lc (own := [("k", 3)]) (by rfl) sc_downs_of.nd (pi_rgN rfl B.range (pa_cons (pe_callB (call_min2 rfl) (by rfl) B.min (by decide +kernel) (pa_cons (pv 1) (pa_cons (pe_callB (call_lenN K) (by rfl) B.len PySem.boot_len (pa_cons (pv 2) pa_nil)) pa_nil))) pa_nil)) (blkOk_by (own := [("k", 3)]) (N := ["form", "wide", "rows", "k"]) (sc := defScope s_downs_of) (by decide +kernel)) (fun _ _ _ _ _ => (pg_name (i := 3) sc_downs_of.nd rfl (by first | exact Or.inl rfl | exact Or.inr rfl))) (fun _ _ _ _ _ => pts_nil) (fun _ _ _ _ _ => (pe_ix (ix_row K) (pe_ix (ix_t K) (pv 2) (pv 3) (fun _ _ => rfl)) (pv 3) (fun _ _ => rfl)))) pa_nil))))), ?_⟩
  have lr : rs.length = m := by rw [hrows.length, tab.len]
  refine ⟨_, rfl, a, _, rfl, hta, rfl, _, _, rfl, _, _, rfl, rfl, ?_⟩
  dsimp only [gName, gCons, gNil]
  refine ⟨_, rfl, _, rfl, b, _, m, rfl, .inr hrs, by rw [List.length_map, lr], _, _, rfl, _, min w' m, rfl, by rw [min_int], by omega, fun D hD => ?_⟩
  refine lc_fn (T := T) walk_N0 hD (by omega) (fun i => V.int (ent R i i)) (fun _ _ => trivial) ?_ gmono_name ?_
  · rintro i x H1 H2 hi e ⟨rfl, rfl⟩ K1 hk
    obtain ⟨q, hq, hqr⟩ := rows_get (e.all hrows) tab (i := i) (by omega)
    exact ⟨rfl, _, rfl, _, rfl, b, _, _, i, _, rfl, rfl, e.sqT hrs, rfl, hq, _, rfl, q, _, _, i, rfl, rfl, hqr, rfl, by rw [getD_len tab (i := i) (by omega)]; omega, hk _ (.refl _)⟩
  · intro H1 hD1 e
    have e3 : (List.range (min w' m)).map (fun i => V.int (ent R i i)) = (downsL m w' R).map V.int := by unfold downsL; rw [List.map_map]; rfl
    rw [e3] at hD1
    exact ⟨_, _, rfl, .inl ⟨.of hD1, fun l hl1 => k _ _ (e.trans (.new hl1)) (row_of upd_same)⟩⟩
/-- rests where the numbers are above nought -/
def restedR (ds : List Int) (y : Row) : Row := mkRow y.length fun k => if 0 < rf ds k then rf y k % rf ds k else rf y k
theorem restedR_len (ds : List Int) (y : Row) : (restedR ds y).length = y.length := mkRow_len _ _
theorem rf_restedR {ds : List Int} {y : Row} {k : Nat} (h : k < y.length) : rf (restedR ds y) k = if 0 < rf ds k then rf y k % rf ds k else rf y k := by
  unfold restedR; rw [rf_mkRow, if_pos h]
def spRested (T : TabL) (K : PySem.W.Frag) : Sp := fun vs H Q _ => ∃ (p b f : Addr) (v : V) (vr : List V) (m w : Nat) (R : List Row) (y : Row), vs = [.ref p, .ref b] ∧ SqT K H p (v :: .ref f :: vr) ∧ TabAt K H f w R ∧ Tab m w R ∧ m ≤ 1000 ∧ w ≤ 1000 ∧ RowAt K H b y ∧ y.length = w ∧ GiveR T K H Q (restedR (downsL m w R) y)
theorem sc_rested : FnScope ["paper", "row", "found", "k", "down"] ["paper", "row"] (defScope s_rested) := ⟨rfl, rfl, rfl, by decide +kernel, rfl, by decide +kernel, by decide +kernel⟩
theorem ok_rested (F : Def K mg "rested" s_rested) (B : Bi mg) (c_downs_of : C8.Cal P w K mg base 1 "downs_of" (spDowns T K) []) : C8.Cal P w K mg base 2 "rested" (spRested T K) [] := by
  refine F.cal sc_rested (fun vs H Q E h => ?_) (fun _ _ _ _ _ _ us hl => match us, hl with | [_, _], _ => rfl) (fun f cdv A outer s H vs Q E hr h => ?_)
  · obtain ⟨p, b, f, v, vr, m, w', R, y, rfl, _⟩ := h
    rfl
  obtain ⟨p, b, f, v, vr, m, w', R, y, rfl, hp, hft, tab, hm, hw, hb, hyl, k⟩ := h
  refine ⟨_,
  (pss_cons (ps_set (i := 2) sc_rested.nd rfl (by first | exact Or.inl rfl | exact Or.inr rfl) (pe_callTy (call_lstK K) (by rfl) B.list (by decide +kernel) (pa_cons (pv 1) pa_nil)))
  (pss_cons (ps_for PassesOwn.never rfl (pi_eK K rfl (by rfl) B.enumerate (pa_cons (C8.pe_c c_downs_of hr (by decide) rfl (pa_cons (pe_ix (ix_t K) (pv 0) pe_int (fun _ _ => rfl)) pa_nil)) pa_nil)) (pg_tK K rfl (n := 2) (pgs_cons (pg_name (i := 3) sc_rested.nd rfl (by first | exact Or.inl rfl | exact Or.inr rfl)) (pgs_cons (pg_name (i := 4) sc_rested.nd rfl (by first | exact Or.inl rfl | exact Or.inr rfl)) pgs_nil)))
    (pss_one (ps_if (pt_cmpR op_gt (pv 4) pe_int (nomark _))
      (pss_one (ps_asg (pe_op op_mod (pe_ix (ix_lrow K) (pv 2) (pv 3) (fun _ _ => rfl)) (pv 4)) (pg_sub (pv 2) (pv 3) set_list)))
      pss_nil)))
  (pss_one (ps_ret (pe_callTy (call_tupK K) (by rfl) B.tuple (by decide +kernel) (pa_cons (pv 2) pa_nil)))))), ?_⟩
  refine ⟨_, rfl, b, _, rfl, .inr hb, fun D hD => ?_⟩
  have e0 : Ex T H (upd H D (.lst (y.map V.int))) := .new hD
  refine ⟨_, rfl, p, _, _, 1, _, rfl, rfl, e0.sqT hp, rfl, rfl, f, m, w', R, rfl, e0.tab hft, tab, hm, hw, fun H1 q e1 hq => ?_⟩
  have ex1 := e0.trans e1
  refine ⟨q, _, rfl, hq, for_it walk_enumT (fun i σ H' => ∃ (z : Row) (u3 u4 : Option V), Ex T H H' ∧ SqT K H' q ((downsL m w' R).map V.int) ∧ H' D = some (.lst (z.map V.int)) ∧ z.length = w' ∧ (∀ k, rf z k = if k < i ∧ 0 < rf (downsL m w' R) k then rf y k % rf (downsL m w' R) k else rf y k) ∧ σ = [some (.ref p), some (.ref b), some (.ref D), u3, u4])
    ⟨y, _, _, ex1, hq, e1.lst upd_same, hyl, fun k => by rw [if_neg (by omega)], rfl⟩ (fun i σ H' _ ⟨z, _, _, _, h, _⟩ => h) ?_ ?_⟩
  · rintro i x σ H2 H3 hi ⟨z, u3, u4, ex, hq2, hz, hzl, hzv, rfl⟩ ⟨t, c, n0, rfl, ht, rfl, h1, h2⟩
    cases h1
    obtain ⟨n, hn, rfl⟩ := map_get h2
    have hn' := rf_at hn
    have e3 : Ex T H2 (upd H2 t (.tup [.int (i : Nat), .int n])) := .new ht
    have hi2 : i < w' := by
      have : i < (downsL m w' R).length := by simpa using hi
      rw [downsL_len] at this; omega
    refine pair_g (sqT_of upd_same) ?_
    refine ⟨_, rfl, _, _, rfl, rfl, _, rfl, ite2 (fun hpos => ?_) fun hpos => ?_⟩
    · have hpos : 0 < n := of_decide_eq_true hpos
      have hz3 := e3.lst hz
      refine ⟨_, rfl, _, rfl, D, z, _, i, rfl, rfl, .of hz3, rfl, by omega, _, rfl, _, _, rfl, rfl, hpos, ?_⟩
      refine ⟨_, rfl, _, rfl, D, _, _, i, rfl, rfl, hz3, ixN_nat (by rw [List.length_map]; omega), ?_⟩
      refine ⟨z.set i (rf z i % n), _, _, (ex.trans e3).mut hD hz3 (plain_lst _), sqT_upd (e3.sqT hq2) hz3, by rw [List.map_set]; exact upd_same, by rw [List.length_set]; exact hzl, fun l => ?_, rfl⟩
      rw [rf_set]
      by_cases hl : i = l
      · subst hl
        rw [if_pos ⟨rfl, by omega⟩, hzv, if_neg (by omega), hn', if_pos ⟨by omega, hpos⟩]
      · rw [if_neg (by omega), hzv]
        by_cases h1 : l < i
        · by_cases h2 : 0 < rf (downsL m w' R) l
          · rw [if_pos ⟨h1, h2⟩, if_pos ⟨by omega, h2⟩]
          · rw [if_neg (by omega), if_neg (by omega)]
        · rw [if_neg (by omega), if_neg (by omega)]
    · have hpos : ¬ 0 < n := fun z => hpos (decide_eq_true z)
      refine ⟨z, _, _, ex.trans e3, e3.sqT hq2, e3.lst hz, hzl, fun l => ?_, rfl⟩
      rw [hzv]
      by_cases hl : l = i
      · subst hl
        rw [if_neg (by omega), hn', if_neg (by omega)]
      · by_cases h2 : 0 < rf (downsL m w' R) l
        · by_cases h1 : l < i
          · rw [if_pos ⟨h1, h2⟩, if_pos ⟨by omega, h2⟩]
          · rw [if_neg (by omega), if_neg (by omega)]
        · rw [if_neg (by omega), if_neg (by omega)]
  · rintro σ H2 ⟨z, u3, u4, ex, hq2, hz, hzl, hzv, rfl⟩
    have el : z = restedR (downsL m w' R) y := by
      refine row_eq (w := w') hzl (by rw [restedR_len, hyl]) fun l hl => ?_
      rw [hzv, rf_restedR (by omega)]
      by_cases h2 : 0 < rf (downsL m w' R) l
      · have : l < (downsL m w' R).length := by
          by_cases h3 : l < (downsL m w' R).length
          · exact h3
          · rw [rf_out (by omega)] at h2; omega
        rw [if_pos ⟨by simpa using this, h2⟩, if_pos h2]
      · rw [if_neg (by omega), if_neg h2]
    rw [el] at hz
    exact ⟨_, rfl, D, _, rfl, .inl ⟨.of hz, fun l hl1 => k _ _ (ex.trans (.new hl1)) (row_of upd_same)⟩⟩
def spPlaceOf (T : TabL) (K : PySem.W.Frag) : Sp := fun vs H Q _ => ∃ (p b f r : Addr) (v0 v2 v3 : V) (v5 : List V) (m w : Nat) (R M : List Row) (x : Row), vs = [.ref p, .ref b] ∧ SqT K H p (v0 :: .ref f :: v2 :: v3 :: .ref r :: v5) ∧ TabAt K H f w R ∧ Tab m w R ∧ TabAt K H r w M ∧ Tab w w M ∧ m ≤ 1000 ∧ w ≤ 1000 ∧ RowAt K H b x ∧ x.length = w ∧
  (∀ i j, i < w → j < w → IntMulOk (rf x i) (ent M i j)) ∧ ∀ H' q y, Ex T H H' → RowAt K H' q (restedR (downsL m w R) y) → y.length = w → (∀ j, j < w → rf y j = dotN (rf x) (fun i => ent M i j) w) → Q (.ref q) H'
theorem sc_place_of : FnScope ["paper", "point"] ["paper", "point"] (defScope s_place_of) := ⟨rfl, rfl, rfl, by decide +kernel, rfl, by decide +kernel, by decide +kernel⟩
theorem ok_place_of (F : Def K mg "place_of" s_place_of) (B : Bi mg) (c_rested : C8.Cal P w K mg base 2 "rested" (spRested T K) []) (c_row_times : C8.Cal P w K mg base 1 "row_times" (spTimes T K) []) : C8.Cal P w K mg base 3 "place_of" (spPlaceOf T K) [] := by
  refine F.cal sc_place_of (fun vs H Q E h => ?_) (fun _ _ _ _ _ _ us hl => match us, hl with | [_, _], _ => rfl) (fun f cdv A outer s H vs Q E hr h => ?_)
  · obtain ⟨p, b, f, r, v0, v2, v3, v5, m, w', R, M, x, rfl, _⟩ := h
    rfl
  obtain ⟨p, b, f, r, v0, v2, v3, v5, m, w', R, M, x, rfl, hp, hft, tab, hrt, tabM, hm, hw, hb, hxl, hmul, k⟩ := h
  refine ⟨_,
  (pss_one (ps_ret (C8.pe_c c_rested hr (by decide) rfl (pa_cons (pv 0) (pa_cons (C8.pe_c c_row_times hr (by decide) rfl (pa_cons (pv 1) (pa_cons (pe_ix (ix_t K) (pv 0) pe_int (fun _ _ => rfl)) pa_nil))) pa_nil))))), ?_⟩
  refine ⟨_, rfl, _, rfl, _, rfl, p, _, _, 4, _, rfl, rfl, hp, rfl, rfl, b, r, w', w', x, M, rfl, hb, hxl, hrt, tabM, hw, hw, hmul, fun H1 q y e1 hq hyl hyv => ?_⟩
  exact ⟨p, q, f, v0, _, m, w', R, y, rfl, e1.sqT hp, e1.tab hft, tab, hm, hw, hq, hyl, fun H2 q2 e2 h2 => k _ _ y (e1.trans e2) h2 hyl hyv⟩
/-! ### shared parts -/
def spShared (T : TabL) (K : PySem.W.Frag) : Sp := fun vs H Q _ => ∃ (a b : Nat), vs = [.int (a : Int), .int (b : Int)] ∧ Q (.int (Nat.gcd a b : Nat)) H
theorem sc_shared_part : FnScope ["one", "other", "rest"] ["one", "other"] (defScope s_shared_part) := ⟨rfl, rfl, rfl, by decide +kernel, rfl, by decide +kernel, by decide +kernel⟩
theorem ok_shared_part (F : Def K mg "shared_part" s_shared_part) (B : Bi mg)  : C8.Cal P w K mg base 1 "shared_part" (spShared T K) [] := by
  refine F.cal sc_shared_part (fun vs H Q E h => ?_) (fun _ _ _ _ _ _ us hl => match us, hl with | [_, _], _ => rfl) (fun f cdv A outer s H vs Q E hr h => ?_)
  · obtain ⟨a, b, rfl, _⟩ := h
    rfl
  obtain ⟨a, b, rfl, k⟩ := h
  refine ⟨_,
  (pss_cons (ps_while PassesOwn.never (pt_cmpR op_gt (pv 1) pe_int (nomark _))
    (pss_cons (ps_set (i := 2) sc_shared_part.nd rfl (by first | exact Or.inl rfl | exact Or.inr rfl) (pe_op op_mod (pv 0) (pv 1)))
    (pss_cons (ps_set (i := 0) sc_shared_part.nd rfl (by first | exact Or.inl rfl | exact Or.inr rfl) (pv 1))
    (pss_one (ps_set (i := 1) sc_shared_part.nd rfl (by first | exact Or.inl rfl | exact Or.inr rfl) (pv 2))))))
  (pss_one (ps_ret (pv 0)))), ?_⟩
  refine ⟨fun n σ H' => H' = H ∧ ∃ (a1 : Nat) (u : Option V), Nat.gcd a1 n = Nat.gcd a b ∧ σ = [some (.int (a1 : Int)), some (.int (n : Int)), u], ⟨b, rfl, a, _, rfl, rfl⟩, ?_⟩
  rintro n σ H2 ⟨rfl, a1, u, hg, rfl⟩
  refine ⟨_, rfl, _, _, rfl, rfl, _, rfl, ite2 (fun hpos => ?_) fun hz => ?_⟩
  · have hpos : 0 < n := by
      have := of_decide_eq_true hpos
      omega
    refine ⟨fun σ' H' => _, fun _ _ h => h, ?_⟩
    refine ⟨_, rfl, _, rfl, _, _, rfl, rfl, by omega, ?_⟩
    dsimp only [gName]
    refine ⟨_, rfl, ?_⟩
    dsimp only [gName]
    refine ⟨_, rfl, ?_⟩
    exact ⟨a1 % n, Nat.mod_lt _ hpos, rfl, n, _, by rw [← hg, Nat.gcd_comm n, ← Nat.gcd_rec, Nat.gcd_comm], rfl⟩
  · have hz : n = 0 := by
      have : ¬ (0 : Int) < (n : Int) := fun z => hz (decide_eq_true z)
      omega
    subst hz
    rw [Nat.gcd_zero_right] at hg
    subst hg
    exact ⟨_, rfl, k⟩
end
end K94

set_option Elab.async false
set_option linter.all false
set_option maxRecDepth 100000
set_option maxHeartbeats 4000000
namespace K94
open PySem PySem.Spec PyProof.Rows L2
section
variable {P : Program} {w : World} {K : PySem.W.Frag} {mg : Str → Option Value} {base : Heap} {T : TabL}
/-! ### what a table leaves -/
theorem take_filterI {R : List Int} {i : Nat} {r : Int} (f : Int → Bool) (h : R[i]? = some r) : (R.take (i + 1)).filter f = if f r = true then (R.take i).filter f ++ [r] else (R.take i).filter f := by
  rw [List.take_succ, h, List.filter_append]
  simp only [Option.toList_some, List.filter_cons, List.filter_nil]
  split <;> simp
structure RndB (w : Nat) (R : List Row) (ds : List Int) (C : Vec → Vec) : Prop where
  rnd : Rnd w R ds C
  bd : ∀ d ∈ ds, d.natAbs ≤ 2 ^ 2001
theorem Rounded.rndB {m w : Nat} {R R4 : List Row} {rd cd : List Deed} (h : Rounded m w R R4 rd cd) : RndB w R (downsL m w R4) (colOps cd) := ⟨h.led.rnd h.diag, fun d hd => by
  obtain ⟨k, _, rfl⟩ := List.mem_map.mp hd
  exact h.bd k k⟩
theorem prodI_snoc (l : List Int) (x : Int) : prodI (l ++ [x]) = prodI l * x := by
  induction l with
  | nil => show x * 1 = 1 * x; omega
  | cons a l ih => rw [List.cons_append]; show a * prodI (l ++ [x]) = a * prodI l * x; rw [ih, Int.mul_assoc]
theorem prodI_bd : ∀ {l : List Int}, (∀ d ∈ l, d.natAbs ≤ 2 ^ 2001) → (prodI l).natAbs ≤ 2 ^ (2001 * l.length)
  | [], _ => Nat.le_refl _
  | d :: l, h => by
    have ih := prodI_bd (l := l) fun x hx => h x (List.mem_cons_of_mem _ hx)
    have h0 := mul_le (h d List.mem_cons_self) ih
    rw [← Nat.pow_add] at h0
    refine Nat.le_trans h0 (pow2_le ?_)
    rw [List.length_cons]; omega
theorem gprod_snoc (n : Int) (l : List Int) (x : Int) : gprod n (l ++ [x]) = gprod n l * (Int.gcd n x : Int) := by
  induction l with
  | nil => show _ * 1 = 1 * _; omega
  | cons a l ih => rw [List.cons_append]; show (Int.gcd n a : Int) * gprod n (l ++ [x]) = (Int.gcd n a : Int) * gprod n l * _; rw [ih, Int.mul_assoc]
theorem gprod_bd {n : Int} : ∀ {l : List Int}, (∀ d ∈ l, 0 < d ∧ d.natAbs ≤ 2 ^ 2001) → (gprod n l).natAbs ≤ 2 ^ (2001 * l.length)
  | [], _ => Nat.le_refl _
  | d :: l, h => by
    have ih := gprod_bd (n := n) (l := l) fun x hx => h x (List.mem_cons_of_mem _ hx)
    obtain ⟨h1, h2⟩ := h d List.mem_cons_self
    have h3 : ((Int.gcd n d : Int)).natAbs ≤ 2 ^ 2001 := by
      rw [Int.natAbs_natCast]
      have : Int.gcd n d ≤ d.natAbs := Nat.le_of_dvd (by omega) (Nat.gcd_dvd_right _ _)
      exact Nat.le_trans this h2
    have h0 := mul_le h3 ih
    rw [← Nat.pow_add] at h0
    refine Nat.le_trans h0 (pow2_le ?_)
    rw [List.length_cons]; omega
def spLeft (T : TabL) (K : PySem.W.Frag) : Sp := fun vs H Q _ => ∃ (a : Addr) (m w : Nat) (R : List Row), vs = [.ref a] ∧ TabAt K H a w R ∧ Tab m w R ∧ Bd 50 R ∧ m ≤ 3 ∧ w ≤ 3 ∧
  ∀ H' q qa ds C, Ex T H H' → SqT K H' q [.ref qa, .int ((w : Int) - (((ds.filter fun d => decide (0 < d)).length : Nat) : Int))] → RowAt K H' qa (ds.filter fun d => decide (1 < d)) → RndB w R ds C → Q (.ref q) H'
theorem sc_left_by : FnScope ["table", "downs", "free", "one"] ["table"] (defScope s_left_by) := ⟨rfl, rfl, rfl, by decide +kernel, rfl, by decide +kernel, by decide +kernel⟩
theorem ok_left_by (F : Def K mg "left_by" s_left_by) (B : Bi mg) (c_downs_of : C8.Cal P w K mg base 1 "downs_of" (spDowns T K) []) (c_rounds_of : C8.Cal P w K mg base 5 "rounds_of" (spRounds T K) []) : C8.Cal P w K mg base 6 "left_by" (spLeft T K) [] := by
  refine F.cal sc_left_by (fun vs H Q E h => ?_) (fun _ _ _ _ _ _ us hl => match us, hl with | [_], _ => rfl) (fun f cdv A outer s H vs Q E hr h => ?_)
  · obtain ⟨a, m, w', R, rfl, _⟩ := h
    rfl
  obtain ⟨a, m, w', R, rfl, hat, tab, bd, hm, hw, k⟩ := h
  obtain ⟨b, hta, rs, hrs, hrows⟩ := id hat
  refine ⟨_,
  (pss_cons (ps_set (i := 1) sc_left_by.nd rfl (by first | exact Or.inl rfl | exact Or.inr rfl) (C8.pe_c c_downs_of hr (by decide) rfl (pa_cons (C8.pe_c c_rounds_of hr (by decide) rfl (pa_cons (pv 0) pa_nil)) pa_nil)))
  (pss_cons (ps_set (i := 2) sc_left_by.nd rfl (by first | exact Or.inl rfl | exact Or.inr rfl) (pe_op op_sub (pe_ix (ix_t K) (pv 0) pe_int (fun _ _ => rfl)) (pe_callB (call_lenN K) (by rfl) B.len PySem.boot_len (pa_cons (pe_lc (own := [("one", 3)]) (by rfl) sc_left_by.nd (pi_tK K rfl (pv 1)) (blkOk_by (own := [("one", 3)]) (N := ["table", "downs", "free", "one"]) (sc := defScope s_left_by) (by decide +kernel)) (fun _ _ _ _ _ => (pg_name (i := 3) sc_left_by.nd rfl (by first | exact Or.inl rfl | exact Or.inr rfl))) (fun _ _ _ _ _ => (pts_one (pt_cmpR op_gt (pv 3) pe_int (nomark _)))) (fun _ _ _ _ _ => (pv 3))) pa_nil))))
  (pss_one (ps_ret (pe_tup (pa_cons (pe_callTy (call_tupK K) (by rfl) B.tuple (by decide +kernel) (pa_cons (pe_lc (own := [("one", 3)]) (by rfl) sc_left_by.nd (pi_tK K rfl (pv 1)) (blkOk_by (own := [("one", 3)]) (N := ["table", "downs", "free", "one"]) (sc := defScope s_left_by) (by decide +kernel)) (fun _ _ _ _ _ => (pg_name (i := 3) sc_left_by.nd rfl (by first | exact Or.inl rfl | exact Or.inr rfl))) (fun _ _ _ _ _ => (pts_one (pt_cmpR op_gt (pv 3) pe_int (nomark _)))) (fun _ _ _ _ _ => (pv 3))) pa_nil)) (pa_cons (pv 2) pa_nil))))))), ?_⟩
  refine ⟨_, rfl, a, m, w', R, rfl, hat, tab, bd, hm, hw, fun H1 p R4 rd cd e1 t1 rr => ⟨p, m, w', R4, rfl, t1, rr.led.tab, by omega, by omega, fun H2 q e2 hq => ?_⟩⟩
  have rb := rr.rndB
  have hds : (downsL m w' R4).length ≤ 3 := by rw [downsL_len]; omega
  generalize downsL m w' R4 = ds at *
  have ex2 := e1.trans e2
  dsimp only [gName]
  refine ⟨_, rfl, a, _, _, 0, _, rfl, rfl, ex2.sqT hta, rfl, rfl, _, rfl, q, rfl, ⟨_, hq⟩, fun D hD => ?_⟩
  refine lc_go (T := T) walk_tup hD (by rw [List.length_map]; omega) (fun i acc _ => acc = ((ds.take i).filter fun d => decide (0 < d)).map V.int) rfl (fun _ e => e.sqT hq) ?_ ?_
  · rintro i x acc H3 H4 hi hacc _ e pp ⟨rfl, hx⟩ K1 K0 g1 g0
    obtain ⟨n, hn, rfl⟩ := map_get hx
    refine ⟨rfl, _, rfl, _, _, rfl, rfl, _, rfl, ite2 (fun hh => ⟨_, rfl, g1 _ _ (.refl _) ?_⟩) fun hh => g0 _ (.refl _) ?_⟩
    · rw [pp, take_filterI _ hn, if_pos hh, List.map_append]; rfl
    · rw [pp, take_filterI _ hn, if_neg hh]
  · intro acc H3 hD3 e3 _ pp
    rw [List.length_map, List.take_length] at pp
    subst pp
    have hq3 := e3.sqT hq
    refine ⟨D, _, _, rfl, .inl (.of hD3), List.length_map .., _, _, rfl, rfl, ?_⟩
    dsimp only [gName]
    refine ⟨_, rfl, q, rfl, ⟨_, hq3⟩, fun E' hE => ?_⟩
    refine lc_go (T := T) walk_tup hE (by rw [List.length_map]; omega) (fun i acc _ => acc = ((ds.take i).filter fun d => decide (1 < d)).map V.int) rfl (fun _ e => e.sqT hq3) ?_ ?_
    · rintro i x acc H4 H5 hi hacc _ e pp ⟨rfl, hx⟩ K1 K0 g1 g0
      obtain ⟨n, hn, rfl⟩ := map_get hx
      refine ⟨rfl, _, rfl, _, _, rfl, rfl, _, rfl, ite2 (fun hh => ⟨_, rfl, g1 _ _ (.refl _) ?_⟩) fun hh => g0 _ (.refl _) ?_⟩
      · rw [pp, take_filterI _ hn, if_pos hh, List.map_append]; rfl
      · rw [pp, take_filterI _ hn, if_neg hh]
    · intro acc H4 hE4 e4 _ pp
      rw [List.length_map, List.take_length] at pp
      subst pp
      refine ⟨E', _, rfl, .inl ⟨.of hE4, fun l hl => ⟨_, rfl, by show 2 ≤ _; decide, fun t ht => ?_⟩⟩⟩
      have el : Ex T H4 (upd H4 l (.tup ((ds.filter fun d => decide (1 < d)).map V.int))) := .new hl
      have hl1 : RowAt K (upd H4 l (.tup ((ds.filter fun d => decide (1 < d)).map V.int))) l (ds.filter fun d => decide (1 < d)) := row_of upd_same
      generalize upd H4 l (.tup ((ds.filter fun d => decide (1 < d)).map V.int)) = H5 at *
      exact k _ t l ds _ ((((ex2.trans e3).trans e4).trans el).trans (.new ht)) (sqT_of upd_same) (Ex.row (T := T) (.new ht) hl1) rb
def spClasses (T : TabL) (K : PySem.W.Frag) : Sp := fun vs H Q _ => ∃ (a : Addr) (m w : Nat) (R : List Row), vs = [.ref a] ∧ TabAt K H a w R ∧ Tab m w R ∧ Bd 50 R ∧ m ≤ 3 ∧ w ≤ 3 ∧
  ∀ H' ds C v, Ex T H H' → RndB w R ds C → v = (if (ds.filter fun d => decide (0 < d)).length < w then V.non else V.int (prodI (ds.filter fun d => decide (1 < d)))) → Q v H'
theorem sc_classes_of : FnScope ["table", "above", "free", "found", "one"] ["table"] (defScope s_classes_of) := ⟨rfl, rfl, rfl, by decide +kernel, rfl, by decide +kernel, by decide +kernel⟩
theorem ok_classes_of (F : Def K mg "classes_of" s_classes_of) (B : Bi mg) (c_left_by : C8.Cal P w K mg base 6 "left_by" (spLeft T K) []) : C8.Cal P w K mg base 7 "classes_of" (spClasses T K) [] := by
  refine F.cal sc_classes_of (fun vs H Q E h => ?_) (fun _ _ _ _ _ _ us hl => match us, hl with | [_], _ => rfl) (fun f cdv A outer s H vs Q E hr h => ?_)
  · obtain ⟨a, m, w', R, rfl, _⟩ := h
    rfl
  obtain ⟨a, m, w', R, rfl, hat, tab, bd, hm, hw, k⟩ := h
  refine ⟨_,
  (pss_cons (ps_asg (C8.pe_c c_left_by hr (by decide) rfl (pa_cons (pv 0) pa_nil)) (pg_tK K rfl (n := 2) (pgs_cons (pg_name (i := 1) sc_classes_of.nd rfl (by first | exact Or.inl rfl | exact Or.inr rfl)) (pgs_cons (pg_name (i := 2) sc_classes_of.nd rfl (by first | exact Or.inl rfl | exact Or.inr rfl)) pgs_nil))))
  (pss_cons (ps_if (pt_cmpR op_gt (pv 2) pe_int (nomark _))
    (pss_one (ps_ret pe_non))
    pss_nil)
  (pss_cons (ps_set (i := 3) sc_classes_of.nd rfl (by first | exact Or.inl rfl | exact Or.inr rfl) pe_int)
  (pss_cons (ps_for PassesOwn.never rfl (pi_tK K rfl (pv 1)) (pg_name (i := 4) sc_classes_of.nd rfl (by first | exact Or.inl rfl | exact Or.inr rfl))
    (pss_one (ps_set (i := 3) sc_classes_of.nd rfl (by first | exact Or.inl rfl | exact Or.inr rfl) (pe_op op_mulB (pv 3) (pv 4)))))
  (pss_one (ps_ret (pv 3))))))), ?_⟩
  refine ⟨_, rfl, a, m, w', R, rfl, hat, tab, bd, hm, hw, fun H1 q qa ds C e1 hq hqa rb => ?_⟩
  refine ⟨q, _, rfl, hq, rfl, _, _, rfl, _, _, rfl, rfl, ?_⟩
  dsimp only [gName, gCons, gNil]
  have fl : (ds.filter fun d => decide (0 < d)).length ≤ w' := Nat.le_trans (List.length_filter_le _ _) rb.rnd.len
  refine ⟨_, rfl, _, _, rfl, rfl, _, rfl, ite2 (fun hpos => ?_) fun hz => ?_⟩
  · have hpos := of_decide_eq_true hpos
    exact k _ ds C _ e1 rb (by rw [if_pos (by omega)])
  · have hz : ¬ (0 : Int) < (w' : Int) - (((ds.filter fun d => decide (0 < d)).length : Nat) : Int) := fun z => hz (decide_eq_true z)
    have hF : ∀ d ∈ ds.filter fun d => decide (1 < d), d.natAbs ≤ 2 ^ 2001 := fun d hd => rb.bd d (List.mem_filter.mp hd).1
    have lF : (ds.filter fun d => decide (1 < d)).length ≤ 3 := Nat.le_trans (List.length_filter_le _ _) (Nat.le_trans rb.rnd.len hw)
    have k' := k H1 ds C (.int (prodI (ds.filter fun d => decide (1 < d)))) e1 rb (by rw [if_neg (by omega)])
    generalize (ds.filter fun d => decide (1 < d)) = F at *
    refine ⟨_, rfl, qa, rfl, ⟨_, hqa⟩, for_it walk_tup (fun i σ H' => ∃ (u : Option V), H' = H1 ∧ σ = [some (.ref a), some (.ref qa), some (.int ((w' : Int) - (((ds.filter fun d => decide (0 < d)).length : Nat) : Int))), some (.int (prodI (F.take i))), u])
      ⟨_, rfl, rfl⟩ (fun i σ H' _ ⟨u, h, _⟩ => h ▸ hqa) ?_ ?_⟩
    · rintro i x σ H2 H3 hi ⟨u, rfl, rfl⟩ ⟨rfl, hx⟩
      obtain ⟨n, hn, rfl⟩ := map_get hx
      have hi3 : i < F.length := by simpa using hi
      refine ⟨_, rfl, _, rfl, _, _, rfl, rfl, ?_, some (.int n), rfl, ?_⟩
      · have h1 := prodI_bd (l := F.take i) fun d hd => hF d (List.mem_of_mem_take hd)
        rw [List.length_take, Nat.min_eq_left (by omega)] at h1
        exact mulOk_bits (a := 6004) (b := 2002) (Nat.lt_of_le_of_lt h1 (Nat.pow_lt_pow_right (by decide) (by omega))) (Nat.lt_of_le_of_lt (hF n (List.mem_of_getElem? hn)) (Nat.pow_lt_pow_right (by decide) (by decide))) (by decide)
      · rw [List.take_succ, hn, Option.toList_some, prodI_snoc]; rfl
    · rintro σ H2 ⟨u, rfl, rfl⟩
      rw [List.length_map, List.take_length]
      exact ⟨_, rfl, k'⟩
def spKilled (T : TabL) (K : PySem.W.Frag) : Sp := fun vs H Q _ => ∃ (a : Addr) (m w n : Nat) (R : List Row), vs = [.ref a, .int (n : Int)] ∧ TabAt K H a w R ∧ Tab m w R ∧ Bd 50 R ∧ m ≤ 3 ∧ w ≤ 3 ∧
  ∀ H' ds C, Ex T H H' → RndB w R ds C → Q (.int (gpos (n : Int) ds)) H'
theorem sc_killed_by : FnScope ["table", "n", "found", "down"] ["table", "n"] (defScope s_killed_by) := ⟨rfl, rfl, rfl, by decide +kernel, rfl, by decide +kernel, by decide +kernel⟩
theorem ok_killed_by (F : Def K mg "killed_by" s_killed_by) (B : Bi mg) (c_downs_of : C8.Cal P w K mg base 1 "downs_of" (spDowns T K) []) (c_rounds_of : C8.Cal P w K mg base 5 "rounds_of" (spRounds T K) []) (c_shared_part : C8.Cal P w K mg base 1 "shared_part" (spShared T K) []) : C8.Cal P w K mg base 6 "killed_by" (spKilled T K) [] := by
  refine F.cal sc_killed_by (fun vs H Q E h => ?_) (fun _ _ _ _ _ _ us hl => match us, hl with | [_, _], _ => rfl) (fun f cdv A outer s H vs Q E hr h => ?_)
  · obtain ⟨a, m, w', n, R, rfl, _⟩ := h
    rfl
  obtain ⟨a, m, w', n, R, rfl, hat, tab, bd, hm, hw, k⟩ := h
  refine ⟨_,
  (pss_cons (ps_set (i := 2) sc_killed_by.nd rfl (by first | exact Or.inl rfl | exact Or.inr rfl) pe_int)
  (pss_cons (ps_for PassesOwn.never rfl (pi_tK K rfl (C8.pe_c c_downs_of hr (by decide) rfl (pa_cons (C8.pe_c c_rounds_of hr (by decide) rfl (pa_cons (pv 0) pa_nil)) pa_nil))) (pg_name (i := 3) sc_killed_by.nd rfl (by first | exact Or.inl rfl | exact Or.inr rfl))
    (pss_one (ps_if (pt_cmpR op_gt (pv 3) pe_int (nomark _))
      (pss_one (ps_set (i := 2) sc_killed_by.nd rfl (by first | exact Or.inl rfl | exact Or.inr rfl) (pe_op op_mulB (pv 2) (C8.pe_c c_shared_part hr (by decide) rfl (pa_cons (pv 1) (pa_cons (pv 3) pa_nil))))))
      pss_nil)))
  (pss_one (ps_ret (pv 2))))), ?_⟩
  refine ⟨_, rfl, a, m, w', R, rfl, hat, tab, bd, hm, hw, fun H1 p R4 rd cd e1 t1 rr => ⟨p, m, w', R4, rfl, t1, rr.led.tab, by omega, by omega, fun H2 q e2 hq => ?_⟩⟩
  have rb := rr.rndB
  have hds : (downsL m w' R4).length ≤ 3 := by rw [downsL_len]; omega
  generalize downsL m w' R4 = ds at *
  have k' := k H2 ds _ (e1.trans e2) rb
  refine ⟨q, rfl, ⟨_, hq⟩, for_it walk_tup (fun i σ H' => ∃ (u : Option V), H' = H2 ∧ σ = [some (.ref a), some (.int (n : Int)), some (.int (gpos (n : Int) (ds.take i))), u])
    ⟨_, rfl, rfl⟩ (fun i σ H' _ ⟨u, h, _⟩ => h ▸ hq) ?_ ?_⟩
  · rintro i x σ H3 H4 hi ⟨u, rfl, rfl⟩ ⟨rfl, hx⟩
    obtain ⟨d, hd, rfl⟩ := map_get hx
    have hi3 : i < ds.length := by simpa using hi
    have hdm := List.mem_of_getElem? hd
    refine ⟨_, rfl, _, _, rfl, rfl, _, rfl, ite2 (fun hpos => ?_) fun hz => ⟨some (.int d), rfl, ?_⟩⟩
    · have hpos' : 0 < d := of_decide_eq_true hpos
      have hdn : d = ((d.toNat : Nat) : Int) := (Int.toNat_of_nonneg (by omega)).symm
      have hg : ((Nat.gcd n d.toNat : Nat) : Int) = ((Int.gcd (n : Int) d : Nat) : Int) := by
        unfold Int.gcd
        rw [Int.natAbs_natCast, show d.natAbs = d.toNat by omega]
      refine ⟨_, rfl, _, rfl, _, rfl, n, d.toNat, by rw [← hdn]; rfl, _, _, rfl, rfl, ?_, some (.int d), rfl, ?_⟩
      · have h1 := gprod_bd (n := (n : Int)) (l := (ds.take i).filter fun d => decide (0 < d)) fun d hd => by
          have := List.mem_filter.mp hd
          exact ⟨of_decide_eq_true this.2, rb.bd d (List.mem_of_mem_take this.1)⟩
        have h2 : ((ds.take i).filter fun d => decide (0 < d)).length ≤ 3 := Nat.le_trans (List.length_filter_le _ _) (by rw [List.length_take]; omega)
        have h3 : (((Nat.gcd n d.toNat : Nat) : Int)).natAbs ≤ 2 ^ 2001 := by
          rw [Int.natAbs_natCast]
          have : Nat.gcd n d.toNat ≤ d.toNat := Nat.le_of_dvd (by omega) (Nat.gcd_dvd_right _ _)
          have h4 := rb.bd d hdm
          omega
        exact mulOk_bits (a := 6004) (b := 2002) (Nat.lt_of_le_of_lt h1 (Nat.pow_lt_pow_right (by decide) (by omega))) (Nat.lt_of_le_of_lt h3 (Nat.pow_lt_pow_right (by decide) (by decide))) (by decide)
      · unfold gpos
        rw [hg, take_filterI _ hd, if_pos hpos, gprod_snoc]; rfl
    · unfold gpos
      rw [take_filterI _ hd, if_neg hz]; rfl
  · rintro σ H3 ⟨u, rfl, rfl⟩
    rw [List.length_map, List.take_length]
    exact ⟨_, rfl, k'⟩
end
end K94

set_option Elab.async false
set_option linter.all false
set_option maxRecDepth 100000
set_option maxHeartbeats 4000000
namespace K94
open PySem PySem.Spec PyProof.Rows L2
section
variable {P : Program} {w : World} {K : PySem.W.Frag} {mg : Str → Option Value} {base : Heap} {T : TabL}
/-! ### a point's order -/
theorem dotN_congr {x y z : Vec} : ∀ n, (∀ i, i < n → y i = z i) → dotN x y n = dotN x z n
  | 0, _ => rfl
  | n + 1, h => by
    show _ + _ = _ + _
    rw [dotN_congr n fun i hi => h i (by omega), h n (by omega)]
theorem ent_over {w : Nat} {M : List Row} {i : Nat} (hi : i < w) (j : Nat) : ent (overL w M) i j = ent M j i := by
  unfold overL
  show rf (((List.range w).map (colL M)).getD i []) j = _
  rw [show ((List.range w).map (colL M)).getD i [] = colL M i by simp [hi], rf_colL]
theorem over_tab {m w : Nat} {M : List Row} (t : Tab m w M) : Tab w m (overL w M) := ⟨by unfold overL; simp, fun r hr => by
  obtain ⟨c, _, rfl⟩ := List.mem_map.mp hr
  unfold colL; rw [List.length_map]; exact t.len⟩
theorem fdiv_nat (a b : Nat) : ((a : Int)).fdiv (b : Int) = ((a / b : Nat) : Int) := by
  rw [Int.fdiv_eq_ediv_of_nonneg _ (by omega)]; norm_cast
def ordV : Option Int → V
  | none => .non
  | some n => .int n
def spOrder (T : TabL) (K : PySem.W.Frag) : Sp := fun vs H Q _ => ∃ (a b : Addr) (m w : Nat) (R : List Row) (x : Row), vs = [.ref a, .ref b] ∧ TabAt K H a w R ∧ Tab m w R ∧ Bd 50 R ∧ m ≤ 3 ∧ w ≤ 3 ∧ RowAt K H b x ∧ x.length = w ∧ (∀ j, (rf x j).natAbs ≤ 10) ∧
  ∀ H' o, Ex T H H' → OrdI R (rf x) o → (∀ n, o = some n → n.natAbs ≤ 2 ^ 2001) → Q (ordV o) H'
theorem sc_order_of : FnScope ["table", "point", "paper", "downs", "found", "k", "number", "part"] ["table", "point"] (defScope s_order_of) := ⟨rfl, rfl, rfl, by decide +kernel, rfl, by decide +kernel, by decide +kernel⟩
theorem ok_order_of (F : Def K mg "order_of" s_order_of) (B : Bi mg) (c_downs_of : C8.Cal P w K mg base 1 "downs_of" (spDowns T K) []) (c_rounds_paper : C8.Cal P w K mg base 7 "rounds_paper" (spPaper T K) []) (c_place_of : C8.Cal P w K mg base 3 "place_of" (spPlaceOf T K) []) (c_shared_part : C8.Cal P w K mg base 1 "shared_part" (spShared T K) []) : C8.Cal P w K mg base 8 "order_of" (spOrder T K) [] := by
  refine F.cal sc_order_of (fun vs H Q E h => ?_) (fun _ _ _ _ _ _ us hl => match us, hl with | [_, _], _ => rfl) (fun f cdv A outer s H vs Q E hr h => ?_)
  · obtain ⟨a, b, m, w', R, x, rfl, _⟩ := h
    rfl
  obtain ⟨a, b, m, w', R, x, rfl, hat, tab, bd, hm, hw, hb, hxl, hxb, k⟩ := h
  refine ⟨_,
  (pss_cons (ps_set (i := 2) sc_order_of.nd rfl (by first | exact Or.inl rfl | exact Or.inr rfl) (C8.pe_c c_rounds_paper hr (by decide) rfl (pa_cons (pv 0) pa_nil)))
  (pss_cons (ps_set (i := 3) sc_order_of.nd rfl (by first | exact Or.inl rfl | exact Or.inr rfl) (C8.pe_c c_downs_of hr (by decide) rfl (pa_cons (pe_ix (ix_t K) (pv 2) pe_int (fun _ _ => rfl)) pa_nil)))
  (pss_cons (ps_set (i := 4) sc_order_of.nd rfl (by first | exact Or.inl rfl | exact Or.inr rfl) pe_int)
  (pss_cons (ps_for PassesOwn.never rfl (pi_eK K rfl (by rfl) B.enumerate (pa_cons (C8.pe_c c_place_of hr (by decide) rfl (pa_cons (pv 2) (pa_cons (pv 1) pa_nil))) pa_nil)) (pg_tK K rfl (n := 2) (pgs_cons (pg_name (i := 5) sc_order_of.nd rfl (by first | exact Or.inl rfl | exact Or.inr rfl)) (pgs_cons (pg_name (i := 6) sc_order_of.nd rfl (by first | exact Or.inl rfl | exact Or.inr rfl)) pgs_nil)))
    (pss_one (ps_if (PW.pt (pw_or (pt_cmpR op_ge (pv 5) (pe_callB (call_lenN K) (by rfl) B.len PySem.boot_len (pa_cons (pv 3) pa_nil)) (nomark _)) (pw_or1 (pt_cmpR op_eq (pe_ix (ix_row K) (pv 3) (pv 5) (fun _ _ => rfl)) pe_int (nomark _)))))
      (pss_one (ps_if (pt_cmpR op_ne (pv 6) pe_int (nomark _))
        (pss_one (ps_ret pe_non))
        pss_nil))
      (pss_cons (ps_set (i := 7) sc_order_of.nd rfl (by first | exact Or.inl rfl | exact Or.inr rfl) (pe_op op_fdivB (pe_ix (ix_row K) (pv 3) (pv 5) (fun _ _ => rfl)) (C8.pe_c c_shared_part hr (by decide) rfl (pa_cons (pe_ix (ix_row K) (pv 3) (pv 5) (fun _ _ => rfl)) (pa_cons (pv 6) pa_nil)))))
      (pss_one (ps_set (i := 4) sc_order_of.nd rfl (by first | exact Or.inl rfl | exact Or.inr rfl) (pe_op op_fdivB (pe_op op_mulB (pv 4) (pv 7)) (C8.pe_c c_shared_part hr (by decide) rfl (pa_cons (pv 4) (pa_cons (pv 7) pa_nil))))))))))
  (pss_one (ps_ret (pv 4))))))), ?_⟩
  refine ⟨_, rfl, a, m, w', R, rfl, hat, tab, bd, hm, hw, fun H1 p f l lb r rb R4 rd cd e1 hp hf hr1 rr => ?_⟩
  dsimp only [gName]
  refine ⟨_, rfl, p, _, _, 1, _, rfl, rfl, hp, rfl, rfl, f, m, w', R4, rfl, hf, rr.led.tab, by omega, by omega, fun H2 q e2 hq => ?_⟩
  dsimp only [gName]
  have e12 := e1.trans e2
  have tM := (unit_tab w').rowsD rr.led.cok
  have hcl := rr.cl
  refine ⟨_, rfl, _, rfl, p, b, f, r, _, _, _, _, m, w', R4, _, x, rfl, e2.sqT hp, e2.tab hf, rr.led.tab, e2.tab hr1, over_tab tM, by omega, by omega, e12.row hb, hxl, fun i j hi hj => ?_, fun H3 pl y e3 hpl hyl hyv => ?_⟩
  · rw [ent_over hi]
    exact mulOk_bits (a := 4) (b := 2003 * cd.length + 1) (Nat.lt_of_le_of_lt (hxb i) (by decide)) (deeds_bits rr.led.cok rr.cb _ _) (by omega)
  have hc : ∀ j, j < w' → rf y j = colOps cd (rf x) j := fun j hj => by
    rw [hyv j hj, ← dot_deeds rr.led.cok j hj]
    exact dotN_congr _ fun i hi => ent_over hi j
  have R1 := rr.rndB
  have hq3 := e3.row hq
  have ex3 := e12.trans e3
  have hx : Supp w' (rf x) := supp_rf hxl
  generalize downsL m w' R4 = ds at *
  generalize colOps cd = C at *
  have RN := R1.rnd
  have hdl := RN.len
  have bdN : ∀ {i n : Nat}, OrdSt ds (C (rf x)) i n → n ≤ 2 ^ 2001 := fun o => by
    have h1 := o.dvd RN.chain RN.nonneg
    have h2 : (lastA ds).natAbs ≤ 2 ^ 2001 := by
      rcases lastA_mem ds with e | e
      · rw [e]; exact Nat.pow_pos (by decide)
      · exact R1.bd _ e
    have h3 := lastA_pos ds
    have h4 := Int.le_of_dvd h3 h1
    generalize (2 : Nat) ^ 2001 = Z at *
    omega
  refine ⟨pl, _, rfl, hpl, for_it walk_enumT (fun i σ H' => ∃ (n : Nat) (u5 u6 u7 : Option V), Ex T H H' ∧ RowAt K H' pl (restedR ds y) ∧ RowAt K H' q ds ∧ OrdSt ds (C (rf x)) i n ∧ σ = [some (.ref a), some (.ref b), some (.ref p), some (.ref q), some (.int (n : Int)), u5, u6, u7])
    ⟨1, _, _, _, ex3, hpl, hq3, .start _ _, rfl⟩ (fun i σ H' _ ⟨n, _, _, _, _, h, _⟩ => h) ?_ ?_⟩
  · rintro i z σ H4 H5 hi ⟨n, u5, u6, u7, ex, hpl4, hq4, os, rfl⟩ ⟨t, c, z2, rfl, ht, rfl, h1, h2⟩
    cases h1
    obtain ⟨num, hnum, rfl⟩ := map_get h2
    have hnum' := rf_at hnum
    have hi2 : i < w' := by
      have : i < (restedR ds y).length := by simpa using hi
      rw [restedR_len] at this; omega
    rw [rf_restedR (by omega), hc i hi2] at hnum'
    have e4 : Ex T H4 (upd H4 t (.tup [.int (i : Nat), .int num])) := .new ht
    have hq5 := e4.row hq4
    have hpl5 := e4.row hpl4
    have ex5 := ex.trans e4
    have dz : ∀ (hz : rf ds i = 0), (num ≠ 0 → OrdI R (rf x) none) ∧ (num = 0 → OrdSt ds (C (rf x)) (i + 1) n) := fun hz => by
      rw [if_neg (by omega)] at hnum'
      exact ⟨fun h => RN.ord_none hx hi2 hz (by rw [hnum']; exact h), fun h => os.skip (by rw [hnum']; exact h)⟩
    refine pair_g (sqT_of upd_same) ?_
    refine ⟨_, rfl, _, rfl, q, _, _, rfl, .inr hq5, rfl, _, _, rfl, rfl, _, rfl, ite2 (fun hge => iteT ?_) fun hlt => ?_⟩
    · have hge := of_decide_eq_true hge
      rw [List.length_map] at hge
      have hz : rf ds i = 0 := rf_out (by omega)
      obtain ⟨d1, d2⟩ := dz hz
      refine ⟨_, rfl, rfl, _, rfl, ?_⟩
      rw [vne]
      refine ite2 (fun hne => ?_) fun hne => ?_
      · exact k _ none ex5 (d1 (of_decide_eq_true hne)) fun n h => by cases h
      · have : num = 0 := Classical.byContradiction fun h => hne (decide_eq_true h)
        exact ⟨n, _, _, _, ex5, hpl5, hq5, d2 this, rfl⟩
    · have hlt : i < ds.length := by
        have : ¬ (((ds.map V.int).length : Nat) : Int) ≤ (i : Int) := fun z => hlt (decide_eq_true z)
        rw [List.length_map] at this
        omega
      refine ⟨_, rfl, _, rfl, q, ds, _, i, rfl, rfl, hq5, rfl, hlt, rfl, _, rfl, ?_⟩
      rw [veq]
      refine ite2 (fun hz => ?_) fun hz => ?_
      · obtain ⟨d1, d2⟩ := dz (of_decide_eq_true hz)
        refine ⟨_, rfl, rfl, _, rfl, ?_⟩
        rw [vne]
        refine ite2 (fun hne => ?_) fun hne => ?_
        · exact k _ none ex5 (d1 (of_decide_eq_true hne)) fun n h => by cases h
        · have : num = 0 := Classical.byContradiction fun h => hne (decide_eq_true h)
          exact ⟨n, _, _, _, ex5, hpl5, hq5, d2 this, rfl⟩
      · have hz : rf ds i ≠ 0 := fun e => hz (decide_eq_true e)
        have hdm : rf ds i ∈ ds := rf_mem hlt
        have hpos : 0 < rf ds i := by have := RN.nonneg _ hdm; omega
        have hdb := R1.bd _ hdm
        rw [if_pos hpos] at hnum'
        have os2 := os.step hpos
        have pp := partN_pos (y := C (rf x) i) hpos
        have nn := Int.emod_nonneg (C (rf x) i) hz
        have hn9 := bdN os
        have gd : 0 < Nat.gcd (rf ds i).toNat (C (rf x) i % rf ds i).toNat := Nat.gcd_pos_of_pos_left _ (by omega)
        have gl : Nat.gcd (rf ds i).toNat (C (rf x) i % rf ds i).toNat ≤ (rf ds i).toNat := Nat.le_of_dvd (by omega) (Nat.gcd_dvd_left _ _)
        have g2 : 0 < Nat.gcd n (partN (rf ds i) (C (rf x) i)) := Nat.gcd_pos_of_pos_left _ os.pos
        have g2l : Nat.gcd n (partN (rf ds i) (C (rf x) i)) ≤ n := Nat.le_of_dvd os.pos (Nat.gcd_dvd_left _ _)
        have big : (2 : Nat) ^ 2001 < 2 ^ 9000 := Nat.pow_lt_pow_right (by decide) (by decide)
        have big2 : (2 : Nat) ^ 2001 < 2 ^ 2002 := Nat.pow_lt_pow_right (by decide) (by decide)
        refine ⟨_, rfl, _, rfl, q, ds, _, i, rfl, rfl, hq5, rfl, hlt, _, rfl, _, rfl, q, ds, _, i, rfl, rfl, hq5, rfl, hlt, _, rfl, (rf ds i).toNat, (C (rf x) i % rf ds i).toNat, by rw [Int.toNat_of_nonneg (by omega), Int.toNat_of_nonneg nn, ← hnum']; rfl, _, _, rfl, rfl, ⟨by omega, ?_⟩, ?_⟩
        · rw [Int.natAbs_natCast]
          generalize (2 : Nat) ^ 2001 = Z at *
          generalize (2 : Nat) ^ 9000 = Y at *
          omega
        have ep : (rf ds i).fdiv ((Nat.gcd (rf ds i).toNat (C (rf x) i % rf ds i).toNat : Nat) : Int) = ((partN (rf ds i) (C (rf x) i) : Nat) : Int) := by
          unfold partN
          rw [← fdiv_nat, Int.toNat_of_nonneg (by omega)]
        dsimp only
        rw [ep]
        dsimp only [gName]
        have p9 : partN (rf ds i) (C (rf x) i) ≤ 2 ^ 2001 := by
          generalize (2 : Nat) ^ 2001 = Z at *
          omega
        refine ⟨_, rfl, _, rfl, _, _, rfl, rfl, ?_, _, rfl, _, rfl, n, partN (rf ds i) (C (rf x) i), rfl, _, _, rfl, rfl, ⟨by omega, ?_⟩, ?_⟩
        · exact mulOk_bits (a := 2002) (b := 2002) (by rw [Int.natAbs_natCast]; exact Nat.lt_of_le_of_lt hn9 big2) (by rw [Int.natAbs_natCast]; exact Nat.lt_of_le_of_lt p9 big2) (by decide)
        · rw [Int.natAbs_natCast]
          generalize (2 : Nat) ^ 2001 = Z at *
          generalize (2 : Nat) ^ 9000 = Y at *
          omega
        dsimp only
        rw [← Int.natCast_mul, fdiv_nat]
        exact ⟨_, _, _, _, ex5, hpl5, hq5, os2, rfl⟩
  · rintro σ H4 ⟨n, u5, u6, u7, ex, hpl4, hq4, os, rfl⟩
    rw [List.length_map, restedR_len, hyl] at os
    have := bdN os
    exact ⟨_, rfl, k _ (some (n : Int)) ex (RN.ord_some hx os) fun n' h => by
      cases h
      rw [Int.natAbs_natCast]; exact this⟩
end
end K94

set_option Elab.async false
set_option linter.all false
set_option maxRecDepth 100000
set_option maxHeartbeats 4000000
namespace K94
open PySem PySem.Spec PyProof.Rows L2
section
variable {P : Program} {w : World} {K : PySem.W.Frag} {mg : Str → Option Value} {base : Heap} {T : TabL}
/-! ### the numbers told of what a table leaves -/
section
variable {m w : Nat} {R F : List Row} {ds : List Int} {C : Vec → Vec}
def cntF (w : Nat) (F : List Row) : Int := if F.length = w then pp F else 0
theorem cnt_pos (hF : Form w R F) : 0 < cntF w F ↔ F.length = w := by
  unfold cntF
  have := pp_pos hF.ech
  by_cases h : F.length = w
  · rw [if_pos h]; exact ⟨fun _ => h, fun _ => this⟩
  · rw [if_neg h]; exact ⟨fun q => absurd q (by decide), fun q => absurd q h⟩
theorem full_len (h : RndB w R ds C) (hF : Form w R F) : (ds.filter fun d => decide (0 < d)).length = w ↔ F.length = w := by
  rw [full_iff h.rnd.len]
  exact ⟨fun f => h.rnd.form_of_full f hF, fun l => h.rnd.full_of_form hF l⟩
theorem pos_le (h : RndB w R ds C) : (ds.filter fun d => decide (0 < d)).length ≤ w := Nat.le_trans (List.length_filter_le _ _) h.rnd.len
theorem free_cnt (h : RndB w R ds C) (hF : Form w R F) : decide (V.int ((w : Int) - (((ds.filter fun d => decide (0 < d)).length : Nat) : Int)) = V.int 0) = decide (0 < cntF w F) := by
  rw [veq]
  refine decide_eq_decide.mpr ?_
  rw [cnt_pos hF, ← full_len h hF]
  have := pos_le h
  omega
theorem classes_cnt (h : RndB w R ds C) (hR : ∀ r ∈ R, r.length = w) (hF : Form w R F) : (if (ds.filter fun d => decide (0 < d)).length < w then V.non else V.int (prodI (ds.filter fun d => decide (1 < d)))) = (if 0 < cntF w F then V.int (cntF w F) else V.non) := by
  have hp := pos_le h
  have hf := full_len h hF
  have hc := cnt_pos hF
  by_cases hl : F.length = w
  · have hfull := h.rnd.full_of_form hF hl
    rw [if_neg (by have := hf.mpr hl; omega), if_pos (hc.mpr hl), prodI_filter hfull.2, h.rnd.classes hR hF hl]
    unfold cntF
    rw [if_pos hl]
  · rw [if_pos (by have : ¬ (ds.filter fun d => decide (0 < d)).length = w := fun q => hl (hf.mp q); omega), if_neg fun q => hl (hc.mp q)]
theorem cnt_rep (hF : FormOk w R F) (hw : w ≤ 3) : ∃ z, repV (if 0 < cntF w F then V.int (cntF w F) else V.non) = some z := by
  split
  · refine repV_int ?_
    unfold cntF
    split
    · have := (hF.bits hw F.length).2
      rw [List.take_length] at this
      exact pow_le this (by decide)
    · exact Nat.pow_pos (by decide)
  · exact ⟨_, rfl⟩
theorem above_last (hne : ds.filter (fun d => decide (1 < d)) ≠ []) : atI ((ds.filter fun d => decide (1 < d)).map V.int) (-1) = some (V.int (lastA ds)) := by
  unfold lastA
  generalize ds.filter (fun d => decide (1 < d)) = G at *
  have hl : 0 < G.length := List.length_pos_iff.mpr hne
  unfold atI ixN
  rw [if_neg (by decide), if_pos (by rw [List.length_map]; omega), List.length_map]
  show (G.map V.int)[((-1 : Int) + (G.length : Int)).toNat]? = _
  rw [List.getElem?_map, show ((-1 : Int) + (G.length : Int)).toNat = G.length - 1 by omega, ← List.getLast?_eq_getElem?]
  rw [List.getLastD_eq_getLast?]
  rw [List.getLast?_eq_some_getLast hne]
  rfl
theorem above_none (hn : ds.filter (fun d => decide (1 < d)) = []) : lastA ds = 1 := by unfold lastA; rw [hn]; rfl
theorem ord_le {o : Option Int} {p : Row} (h : RndB w R ds C) (hx : Supp w (rf p)) (ho : OrdI R (rf p) o) : ∀ n, o = some n → 0 < n ∧ n ≤ lastA ds := by
  rintro n rfl
  obtain ⟨hn, hi⟩ := ho
  have h2 := h.rnd.last hx hn ((hi n).mpr (Int.dvd_refl n))
  exact ⟨hn, Int.le_of_dvd (lastA_pos ds) ((hi _).mp h2)⟩
theorem ord_rep {o : Option Int} {p : Row} (h : RndB w R ds C) (hx : Supp w (rf p)) (ho : OrdI R (rf p) o) (hl : lastA ds < 300) : ∃ z, repV (ordV o) = some z := by
  cases o with
  | none => exact ⟨_, rfl⟩
  | some n =>
    obtain ⟨h1, h2⟩ := ord_le h hx ho n rfl
    exact repV_int (Nat.lt_of_lt_of_le (show n.natAbs < 2 ^ 10 by omega) (Nat.pow_le_pow_right (by decide) (by decide)))
theorem lastA_few {m : Nat} (h : RndB w R ds C) (few : Few m w R F) : lastA ds ≤ 40 := by
  have h1 := h.rnd.classes few.sm.tab.wid few.fo.form few.full
  have h2 := few.few
  have hp := pp_pos few.fo.form.ech
  rcases lastA_mem ds with e | e
  · omega
  · have := Int.le_of_dvd (by rw [h1]; exact hp) (prodI_dvd e)
    omega
theorem ord_same {o : Option Int} {v : V} {most : Nat} {p : Row} (h : RndB w R ds C) (hx : Supp w (rf p)) (ho : OrdI R (rf p) o) (hm : (most : Int) = lastA ds)
    (hv : (v = .non ∧ ∀ n : Nat, 1 ≤ n → n ≤ most → ¬ Lat R (fun j => (n : Int) * rf p j)) ∨ ∃ n : Nat, v = .int (n : Int) ∧ 1 ≤ n ∧ n ≤ most ∧ Lat R (fun j => (n : Int) * rf p j) ∧ ∀ n' : Nat, 1 ≤ n' → n' < n → ¬ Lat R (fun j => (n' : Int) * rf p j)) :
    ordV o = v ∧ ∀ n, o = some n → 0 < n ∧ n ≤ most := by
  cases o with
  | none =>
    refine ⟨?_, fun n h => by cases h⟩
    rcases hv with ⟨rfl, _⟩ | ⟨n, rfl, h1, _, h3, _⟩
    · rfl
    · exact absurd h3 (ho _ (by omega))
  | some n =>
    obtain ⟨hn, hi⟩ := ho
    have h1 : Lat R (fun j => n * rf p j) := (hi n).mpr (Int.dvd_refl n)
    have h2 := h.rnd.last hx hn h1
    have h3 : n ∣ lastA ds := (hi _).mp h2
    have h4 := Int.le_of_dvd (lastA_pos ds) h3
    have hnn : ((n.toNat : Nat) : Int) = n := Int.toNat_of_nonneg (by omega)
    refine ⟨?_, fun n' e => by cases e; omega⟩
    rcases hv with ⟨rfl, hno⟩ | ⟨k, rfl, k1, k2, k3, k4⟩
    · refine absurd ?_ (hno n.toNat (by omega) (by omega))
      rw [hnn]; exact h1
    · have h5 : n ∣ (k : Int) := (hi _).mp k3
      have h6 := Int.le_of_dvd (by omega) h5
      have h7 : ¬ n.toNat < k := fun q => by
        refine k4 n.toNat (by omega) q ?_
        rw [hnn]; exact h1
      show V.int n = V.int (k : Int)
      rw [show n = (k : Int) by omega]
theorem gone_count (hF : Form w R F) (hl : F.length = w) {G : List Row} (hn : G.Nodup) (hG : ∀ q, q ∈ G ↔ q.length = w ∧ Red R (rf q)) : (G.length : Int) = pp F := by
  rw [← redBox_length hF.ech]
  have := mem_length_eq hn (redBox_nodup F) fun q => by rw [hG, redBox_mem hF hl]
  omega
theorem kill_count2 (h : RndB w R ds C) (hR : ∀ r ∈ R, r.length = w) (hF : Form w R F) (hl : F.length = w) {G : List Row} (hn : G.Nodup) (hG : ∀ q, q ∈ G ↔ q.length = w ∧ Red R (rf q)) (n : Int) :
    (((G.filter fun q => cb (Lat R fun j => n * rf q j)).length : Nat) : Int) = gpos n ds := by
  rw [gpos_full (h.rnd.full_of_form hF hl).2]
  refine h.rnd.count hR hF hl n (hn.sublist List.filter_sublist) fun q => ?_
  rw [List.mem_filter, hG, cb_iff]
  exact ⟨fun ⟨⟨a, b⟩, c⟩ => ⟨a, b, c⟩, fun ⟨a, b, c⟩ => ⟨⟨a, b⟩, c⟩⟩
theorem rest_same {F2 : List Row} (f2 : FormOk w R F2) {q : Row} (hq : q.length = w) (hr : Red R (rf q)) : restF F2 q = q := by
  have h1 : IsRest R (rf q) (rf (restF F2 q)) := (restF_is (F := F2) (p := q) (by rw [hq]; exact f2.form.ech)).same f2.form.same
  have h2 := h1.uniq (IsRest.self hr)
  have hl : (restF F2 q).length = q.length := restF_len fun f hf => by rw [f2.form.ech.len f hf, hq]
  exact rf_ext hl h2
end
end
end K94

set_option Elab.async false
set_option linter.all false
set_option maxRecDepth 100000
set_option maxHeartbeats 4000000
namespace K94
open PySem PySem.Spec PyProof.Rows L2
section
variable {P : Program} {w : World} {K : PySem.W.Frag} {mg : Str → Option Value} {base : Heap} {T : TabL}
/-! ### whether what a table leaves is told so -/
section
variable {X : Cx}
theorem ix_neg (K : PySem.W.Frag) (hK : X.K = K := by rfl) : IxR X (rIxT K) := by subst hK; exact ix_tup
theorem op_neDK (K : PySem.W.Frag) (hu : X.A.units + 64 < cLine) (hK : X.K = K := by rfl) : OpR X (compareOp .NotEq) (rNeD K) := by subst hK; exact op_neD hu
end
theorem cnt_if {σ : L2.St} {H : Hp} {i : Nat} {x : Int} {Q : VK} (hv : σ[i]? = some (some (.int x))) (q : Q (if 0 < x then .int x else .non) H) : tIf (tTest (tOp (rI0 fun i j => .bl (decide (j < i))) (tVar i) (tC (.int 0)))) (tVar i) (tC .non) σ H Q := by
  refine ⟨_, hv, _, _, rfl, rfl, _, rfl, ite2 (fun h => ?_) fun h => ?_⟩
  · rw [if_pos (of_decide_eq_true h)] at q
    exact ⟨_, hv, q⟩
  · rw [if_neg fun z => h (decide_eq_true z)] at q
    exact q
theorem most_if {σ : L2.St} {H : Hp} {i : Nat} {qa : Addr} {ds : List Int} {Q : VK} (hv : σ[i]? = some (some (.ref qa))) (h : RowAt K H qa (ds.filter fun d => decide (1 < d))) (q : ∀ H', Ex T H H' → Q (.int (lastA ds)) H') :
    tIf (tTest (tOp (rNeD K) (tVar i) (tTup tNil))) (tOp (rIxT K) (tVar i) (tUn (rU fun i => .int (-i)) (tC (.int 1)))) (tC (.int 1)) σ H Q := by
  refine ⟨_, hv, Nat.zero_le _, fun p hp => ⟨rowD _, rowD [], dp_row (Ex.row (T := T) (.new hp) h), dp_row (row_of upd_same), shaped_row _, shaped_row _, _, rfl, ?_⟩⟩
  rw [eqv_rows]
  by_cases hn : ds.filter (fun d => decide (1 < d)) = []
  · rw [decide_eq_true hn]
    refine iteF ?_
    have := q _ (.new hp (o := .tup []))
    rw [above_none hn] at this
    exact this
  · rw [decide_eq_false hn]
    refine iteT ?_
    exact ⟨_, hv, 1, rfl, qa, _, -1, _, rfl, rfl, Ex.row (T := T) (.new hp) h, above_last hn, q _ (.new hp (o := .tup []))⟩
theorem test_of {ta tb : TE} {r : R2} {σ : L2.St} {H : Hp} {Q : Bool → Hp → Prop} (h : ta σ H fun x H1 => tb σ H1 fun y H2 => r x y H2 fun v H3 => ∃ b, v = .bl b ∧ Q b H3) : tTest (tOp r ta tb) σ H Q := h
def spLleft (T : TabL) (K : PySem.W.Frag) : Sp := fun vs H Q _ => ∃ (d c a : Addr) (m w n : Nat) (R F : List Row), vs = [.ref d, .ref a, .int (cntF w F)] ∧ FeedAt H d c n ∧ n < 900000 ∧ TabAt K H a w R ∧ Small m w R ∧ 1 ≤ w ∧ LamX.Tabs T H ∧ FormOk w R F ∧
  ∀ H', Chg T d d H H' → FeedAt H' d c (n + 20) → Q (.bl true) H'
theorem sc_Lleft_right : FnScope ["_law_feed_here", "_law_table", "_law_count", "_law_above", "_law_free", "_law_most", "_law_k", "_law_point", "_law_rests", "_law_form", "_law_n", "_law_some", "_law_j", "_law_row"] ["_law_feed_here", "_law_table", "_law_count"] (defScope s_Lleft_right) := ⟨rfl, rfl, rfl, by decide +kernel, rfl, by decide +kernel, by decide +kernel⟩
theorem ok_Lleft_right (F : Def K mg "_law_left_right" s_Lleft_right) (B : Bi mg) (c_left_by : C8.Cal P w K mg base 6 "left_by" (spLeft T K) []) (c_classes_of : C8.Cal P w K mg base 7 "classes_of" (spClasses T K) []) (c_Ldraw : C8.Cal P w K mg base 1 "_law_draw" (spLdraw T K) []) (c_order_of : C8.Cal P w K mg base 8 "order_of" (spOrder T K) []) (c_Lorder : C8.Cal P w K mg base 5 "_law_order" (spLorder T K) []) (c_Lgone : C8.Cal P w K mg base 8 "_law_gone" (spLgone T K) []) (c_Lsteps : C8.Cal P w K mg base 3 "_law_steps" (spLsteps T K) []) (c_Lrest : C8.Cal P w K mg base 2 "_law_rest" (spLrest T K) []) (c_Lis_in : C8.Cal P w K mg base 4 "_law_is_in" (spLisin T K) []) (c_Ladded : C8.Cal P w K mg base 1 "_law_added" (spAdded T K) []) (c_killed_by : C8.Cal P w K mg base 6 "killed_by" (spKilled T K) []) : C8.Cal P w K mg base 9 "_law_left_right" (spLleft T K) [] := by
  refine F.cal sc_Lleft_right (fun vs H Q E h => ?_) (fun _ _ _ _ _ _ us hl => match us, hl with | [_, _, _], _ => rfl) (fun f cdv A outer s H vs Q E hr h => ?_)
  · obtain ⟨d, c, a, m, w', n, R, F, rfl, _⟩ := h
    rfl
  obtain ⟨d, c, a, m, w', n, R, F', rfl, fd, hn, hat, sm, hw1, hT, fo, k⟩ := h
  refine ⟨_,
  (pss_cons (ps_asg (C8.pe_c c_left_by hr (by decide) rfl (pa_cons (pv 1) pa_nil)) (pg_tK K rfl (n := 2) (pgs_cons (pg_name (i := 3) sc_Lleft_right.nd rfl (by first | exact Or.inl rfl | exact Or.inr rfl)) (pgs_cons (pg_name (i := 4) sc_Lleft_right.nd rfl (by first | exact Or.inl rfl | exact Or.inr rfl)) pgs_nil))))
  (pss_cons (ps_if (PW.pt (pw_or (pt_cmpR op_ne (pe_cmpR op_eq (pv 4) pe_int (nomark _)) (pe_cmpR op_gt (pv 2) pe_int (nomark _)) (nomark _)) (pw_or1 (pt_cmpR op_ne (pe_callB call_reprV (by rfl) B.repr (by decide +kernel) (pa_cons (C8.pe_c c_classes_of hr (by decide) rfl (pa_cons (pv 1) pa_nil)) pa_nil)) (pe_callB call_reprV (by rfl) B.repr (by decide +kernel) (pa_cons (pe_ifExp (pt_cmpR op_gt (pv 2) pe_int (nomark _)) (pv 2) pe_non) pa_nil)) (nomark _)))))
    (pss_one (ps_ret pe_bl))
    pss_nil)
  (pss_cons (ps_set (i := 5) sc_Lleft_right.nd rfl (by first | exact Or.inl rfl | exact Or.inr rfl) (pe_ifExp (pt_cmpR (op_neD (room_eq hr)) (pv 3) (pe_tup pa_nil) (nomark _)) (pe_ix (ix_neg K) (pv 3) (pe_un un_neg pe_int) (fun _ _ => rfl)) pe_int))
  (pss_cons (ps_for PassesOwn.never rfl (pi_rgN rfl B.range (pa_cons pe_int pa_nil)) (pg_name (i := 6) sc_Lleft_right.nd rfl (by first | exact Or.inl rfl | exact Or.inr rfl))
    (pss_cons (ps_set (i := 7) sc_Lleft_right.nd rfl (by first | exact Or.inl rfl | exact Or.inr rfl) (pe_callTy (call_tupK K) (by rfl) B.tuple (by decide +kernel) (pa_cons (pe_lc (own := [("_law_j", 12)]) (by rfl) sc_Lleft_right.nd (pi_rgN rfl B.range (pa_cons (pe_ix (ix_t K) (pv 1) pe_int (fun _ _ => rfl)) pa_nil)) (blkOk_by (own := [("_law_j", 12)]) (N := ["_law_feed_here", "_law_table", "_law_count", "_law_above", "_law_free", "_law_most", "_law_k", "_law_point", "_law_rests", "_law_form", "_law_n", "_law_some", "_law_j", "_law_row"]) (sc := defScope s_Lleft_right) (by decide +kernel)) (fun _ _ _ _ _ => (pg_name (i := 12) sc_Lleft_right.nd rfl (by first | exact Or.inl rfl | exact Or.inr rfl))) (fun _ _ _ _ _ => pts_nil) (fun _ _ _ _ _ => (pe_op op_sub (C8.pe_c c_Ldraw hr (by decide) rfl (pa_cons (pv 0) (pa_cons pe_int pa_nil))) pe_int))) pa_nil)))
    (pss_one (ps_if (PW.pt (pw_and (pt_cmpR op_lt (pv 5) pe_int (nomark _)) (pw_and1 (pt_cmpR op_ne (pe_callB call_reprV (by rfl) B.repr (by decide +kernel) (pa_cons (C8.pe_c c_order_of hr (by decide) rfl (pa_cons (pv 1) (pa_cons (pv 7) pa_nil))) pa_nil)) (pe_callB call_reprV (by rfl) B.repr (by decide +kernel) (pa_cons (C8.pe_c c_Lorder hr (by decide) rfl (pa_cons (pv 1) (pa_cons (pv 7) (pa_cons (pv 5) pa_nil)))) pa_nil)) (nomark _)))))
      (pss_one (ps_ret pe_bl))
      pss_nil))))
  (pss_cons (ps_if (PW.pt (pw_or (pt_cmpR op_eq (pv 2) pe_int (nomark _)) (pw_or1 (pt_cmpR op_gt (pv 2) pe_int (nomark _)))))
    (pss_one (ps_ret pe_bl))
    pss_nil)
  (pss_cons (ps_set (i := 8) sc_Lleft_right.nd rfl (by first | exact Or.inl rfl | exact Or.inr rfl) (C8.pe_c c_Lgone hr (by decide) rfl (pa_cons (pv 1) pa_nil)))
  (pss_cons (ps_set (i := 9) sc_Lleft_right.nd rfl (by first | exact Or.inl rfl | exact Or.inr rfl) (C8.pe_c c_Lsteps hr (by decide) rfl (pa_cons (pe_callTy (call_lstK K) (by rfl) B.list (by decide +kernel) (pa_cons (pe_ix (ix_t K) (pv 1) pe_int (fun _ _ => rfl)) pa_nil)) (pa_cons (pe_ix (ix_t K) (pv 1) pe_int (fun _ _ => rfl)) pa_nil))))
  (pss_cons (ps_if (PW.pt (pw_or (pt_cmpR op_ne (pe_callB (call_lenN K) (by rfl) B.len PySem.boot_len (pa_cons (pv 8) pa_nil)) (pv 2) (nomark _)) (pw_or1 (pt_cmpR (op_neD (room_eq hr)) (pe_lc (own := [("_law_row", 13)]) (by rfl) sc_Lleft_right.nd (pi_lK K rfl (pv 8)) (blkOk_by (own := [("_law_row", 13)]) (N := ["_law_feed_here", "_law_table", "_law_count", "_law_above", "_law_free", "_law_most", "_law_k", "_law_point", "_law_rests", "_law_form", "_law_n", "_law_some", "_law_j", "_law_row"]) (sc := defScope s_Lleft_right) (by decide +kernel)) (fun _ _ _ _ _ => (pg_name (i := 13) sc_Lleft_right.nd rfl (by first | exact Or.inl rfl | exact Or.inr rfl))) (fun _ _ _ _ _ => (pts_one (pt_cmpR (op_neDK K (room_eq hr)) (C8.pe_c c_Lrest hr (by decide) rfl (pa_cons (pv 9) (pa_cons (pv 13) pa_nil))) (pv 13) (nomark _)))) (fun _ _ _ _ _ => (pv 13))) (pe_lst pa_nil) (nomark _)))))
    (pss_one (ps_ret pe_bl))
    pss_nil)
  (pss_cons (ps_for PassesOwn.never rfl (pi_tK K rfl (pe_tup (pa_cons (pe_op op_add pe_int (C8.pe_c c_Ldraw hr (by decide) rfl (pa_cons (pv 0) (pa_cons pe_int pa_nil)))) (pa_cons (pe_op op_add pe_int (C8.pe_c c_Ldraw hr (by decide) rfl (pa_cons (pv 0) (pa_cons pe_int pa_nil)))) (pa_cons (pv 5) pa_nil))))) (pg_name (i := 10) sc_Lleft_right.nd rfl (by first | exact Or.inl rfl | exact Or.inr rfl))
    (pss_cons (ps_setLc (i := 11) (own := [("_law_row", 13)]) (by rfl) sc_Lleft_right.nd rfl rfl (sw_true rfl rfl rfl (by decide +kernel)) (pi_lK K rfl (pv 8)) (blkOk_by (own := [("_law_row", 13)]) (N := ["_law_feed_here", "_law_table", "_law_count", "_law_above", "_law_free", "_law_most", "_law_k", "_law_point", "_law_rests", "_law_form", "_law_n", "_law_some", "_law_j", "_law_row"]) (sc := defScope s_Lleft_right) (by decide +kernel)) (fun _ _ _ _ _ => (pg_name (i := 13) sc_Lleft_right.nd rfl (by first | exact Or.inl rfl | exact Or.inr rfl))) (fun _ _ _ _ _ => (pts_one (pt_val (C8.pe_c c_Lis_in hr (by decide) rfl (pa_cons (pv 1) (pa_cons (C8.pe_c c_Ladded hr (by decide) rfl (pa_cons (pe_op (op_rep1 K) (pe_tup (pa_cons pe_int pa_nil)) (pe_ix (ix_t K) (pv 1) pe_int (fun _ _ => rfl))) (pa_cons (pv 13) (pa_cons (pv 10) pa_nil)))) pa_nil)))))) (fun _ _ _ _ _ => (pv 13)))
    (pss_one (ps_if (pt_cmpR op_ne (pe_callB call_reprV (by rfl) B.repr (by decide +kernel) (pa_cons (C8.pe_c c_killed_by hr (by decide) rfl (pa_cons (pv 1) (pa_cons (pv 10) pa_nil))) pa_nil)) (pe_callB call_reprV (by rfl) B.repr (by decide +kernel) (pa_cons (pe_callB (call_lenN K) (by rfl) B.len PySem.boot_len (pa_cons (pv 11) pa_nil)) pa_nil)) (nomark _))
      (pss_one (ps_ret pe_bl))
      pss_nil))))
  (pss_one (ps_ret pe_bl))))))))))), ?_⟩
  have hw3 := sm.hw
  have hR := sm.tab.wid
  obtain ⟨ra, hta, rs, hrs, hrows⟩ := id hat
  refine ⟨_, rfl, a, m, w', R, rfl, hat, sm.tab, sm.bd, sm.hm, sm.hw, fun H1 q qa ds C e1 hq hqa rb => ?_⟩
  refine ⟨q, _, rfl, hq, rfl, _, _, rfl, _, _, rfl, rfl, ?_⟩
  dsimp only [gName, gCons, gNil]
  refine ⟨_, rfl, rfl, _, rfl, _, _, rfl, rfl, rfl, _, rfl, ?_⟩
  rw [free_cnt rb fo.form, decide_eq_true rfl]
  refine iteF ?_
  refine ⟨_, rfl, a, m, w', R, rfl, e1.tab hat, sm.tab, sm.bd, sm.hm, sm.hw, fun H2 ds2 C2 v e2 rb2 hv => ?_⟩
  rw [classes_cnt rb2 hR fo.form] at hv
  subst hv
  obtain ⟨z, hz⟩ := cnt_rep fo sm.hw
  refine ⟨_, z, rfl, hz, cnt_if rfl ⟨_, z, rfl, hz, rfl, _, rfl, ?_⟩⟩
  rw [decide_eq_true rfl]
  refine iteF ?_
  have e12 := e1.trans e2
  refine most_if (T := T) rfl (e2.row hqa) fun H3 e3 => ?_
  have e13 := e12.trans e3
  dsimp only [gName]
  have hx3 : 0 < lastA ds := lastA_pos ds
  have hmn : (((lastA ds).toNat : Nat) : Int) = lastA ds := Int.toNat_of_nonneg (by omega)
  -- orders
  refine ⟨_, 3, rfl, rfl, by omega, for_it walk_N0 (fun i σ H' => ∃ (u6 u7 u8 u9 u10 u11 u12 u13 : Option V), Chg T d d H H' ∧ FeedAt H' d c (n + 3 * i) ∧
      σ = [some (.ref d), some (.ref a), some (.int (cntF w' F')), some (.ref qa), some (.int ((w' : Int) - (((ds.filter fun d => decide (0 < d)).length : Nat) : Int))), some (.int (lastA ds)), u6, u7, u8, u9, u10, u11, u12, u13])
    ⟨_, _, _, _, _, _, _, _, .of e13, e13.feedAt fd, rfl⟩ (fun _ _ _ _ _ => trivial) ?_ ?_⟩
  · rintro i x σ H4 H5 hi ⟨u6, u7, u8, u9, u10, u11, u12, u13, ch, fd4, rfl⟩ ⟨rfl, rfl⟩
    refine ⟨_, rfl, a, _, _, 0, _, rfl, rfl, ch.sqTd fd hta, rfl, rfl, _, w', rfl, rfl, by omega, fun D hD => ?_⟩
    have cD := fd4.ne2 hD
    have eD : Ex T H5 (upd H5 D (.lst [])) := .new hD
    refine lc_it walk_N0 (fun j H' => ∃ acc : Row, H' D = some (.lst (acc.map V.int)) ∧ acc.length = j ∧ (∀ x ∈ acc, x.natAbs ≤ 10) ∧ Chg T d d H5 H' ∧ FeedAt H' d c (n + 3 * i + j)) ⟨[], upd_same, rfl, by simp, .of eD, (eD.feedAt fd4).le (by omega)⟩ (fun _ _ _ _ => trivial) ?_ ?_
    · rintro j x H6 H7 hj ⟨acc, hacc, hl, hb, ch6, fd6⟩ ⟨rfl, rfl⟩
      refine ⟨rfl, ?_⟩
      refine iteT (B := ∃ acc : Row, H7 D = some (.lst (acc.map V.int)) ∧ acc.length = j + 1 ∧ (∀ x ∈ acc, x.natAbs ≤ 10) ∧ Chg T d d H5 H7 ∧ FeedAt H7 d c (n + 3 * i + (j + 1))) ?_
      refine ⟨_, rfl, d, c, 7, _, rfl, fd6, by omega, by decide, by decide, fun H8 v8 ch8 fd8 hv8 => ?_⟩
      have h8 := ch8.lstd fd6 hacc
      refine ⟨_, _, rfl, rfl, acc.map V.int, h8, sz (by rw [List.length_map]; omega), acc ++ [(v8 : Int) - 3], ?_, by rw [List.length_append, hl]; rfl, fun x hx => ?_, chg_mut0 (ch6.trans ch8) (.of hD) h8 (plain_lst _), (feedAt_upd fd8 h8 cD).le (by omega)⟩
      · rw [List.map_append]; exact upd_same
      · rcases List.mem_append.mp hx with q | q
        · exact hb x q
        · rw [List.mem_singleton.mp q]; omega
    · rintro H6 ⟨pt, hpt, hl, hb, ch6, fd6⟩
      refine ⟨D, _, rfl, .inl ⟨.of hpt, fun p hp => ?_⟩⟩
      have e7 : Ex T H6 (upd H6 p (.tup (pt.map V.int))) := .new hp
      have hr7 : RowAt K (upd H6 p (.tup (pt.map V.int))) p pt := row_of upd_same
      generalize upd H6 p (.tup (pt.map V.int)) = H7 at *
      have fd7 := (e7.feedAt fd6).le (show n + 3 * i + w' ≤ n + 3 * (i + 1) by omega)
      have ch7 := (ch.trans ch6).trans (.of e7)
      have hb10 : ∀ j, (rf pt j).natAbs ≤ 10 := fun j => by
        by_cases hj : j < pt.length
        · exact hb _ (rf_mem hj)
        · rw [rf_out (by omega)]; decide
      have hxs : Supp w' (rf pt) := supp_rf hl
      dsimp only [gName]
      refine ⟨_, rfl, _, _, rfl, rfl, _, rfl, ite2 (fun hlt => ?_) fun hge => ?_⟩
      · have hlt : lastA ds < 300 := of_decide_eq_true hlt
        refine ⟨_, rfl, _, rfl, a, p, m, w', R, pt, rfl, ch7.tabd fd hat, sm.tab, sm.bd, sm.hm, sm.hw, hr7, hl, hb10, fun H8 o e8 ho hob => ?_⟩
        obtain ⟨z, hz⟩ := ord_rep rb hxs ho hlt
        have ch8 := ch7.trans (.of e8)
        refine ⟨ordV o, z, rfl, hz, _, rfl, _, rfl, _, rfl, a, p, m, w', (lastA ds).toNat, R, pt, by rw [hmn]; rfl, ch8.tabd fd hat, sm, hw1, ch8.tabs hT, e8.row hr7, hl, fun j => Nat.lt_of_le_of_lt (hb10 j) (by decide), by omega, fun H9 v9 e9 hv9 => ?_⟩
        have hv := ord_same rb hxs ho hmn hv9
        rw [← hv.1]
        refine ⟨_, z, rfl, hz, rfl, _, rfl, ?_⟩
        rw [decide_eq_true rfl]
        refine iteF ?_
        exact ⟨_, _, _, _, _, _, _, _, ch8.trans (.of e9), e9.feedAt (e8.feedAt fd7), rfl⟩
      · refine iteF ?_
        exact ⟨_, _, _, _, _, _, _, _, ch7, fd7, rfl⟩
  rintro σ H4 ⟨u6, u7, u8, u9, u10, u11, u12, u13, ch, fd4, rfl⟩
  have fd4' : FeedAt H4 d c (n + 9) := fd4
  refine ⟨_, rfl, rfl, _, rfl, ?_⟩
  rw [veq]
  refine ite2 (fun h0 => ?_) fun h0 => ?_
  · refine iteT ?_
    exact k H4 ch (fd4'.le (by omega))
  refine ⟨_, rfl, _, _, rfl, rfl, _, rfl, ite2 (fun h40 => ?_) fun h40 => ?_⟩
  · exact k H4 ch (fd4'.le (by omega))
  have h0 : cntF w' F' ≠ 0 := fun e => h0 (decide_eq_true e)
  have h40 : cntF w' F' ≤ 40 := by
    have : ¬ (40 : Int) < cntF w' F' := fun q => h40 (decide_eq_true q)
    omega
  have hfull : F'.length = w' := Classical.byContradiction fun q => h0 (by unfold cntF; rw [if_neg q])
  have hcnt : cntF w' F' = pp F' := by unfold cntF; rw [if_pos hfull]
  have few : Few m w' R F' := ⟨sm, hw1, fo, hfull, by omega⟩
  have a40 := lastA_few rb few
  -- rests
  refine ⟨_, rfl, a, m, w', R, F', rfl, ch.tabd fd hat, few, ch.tabs hT, fun H5 pG G e5 hG nd mem => ?_⟩
  have ch5 := ch.trans (.of e5)
  have hGl := gone_count fo.form hfull nd mem
  have hG40 := few.le nd fun q hq => (mem q).mp hq
  dsimp only [gName]
  refine ⟨_, rfl, a, _, _, 1, _, rfl, rfl, ch5.sqTd fd hta, rfl, rfl, ra, _, rfl, .inr (ch5.sqTd fd hrs), fun l hl => ?_⟩
  have e6 : Ex T H5 (upd H5 l (.lst (rs.map V.ref))) := .new hl
  have hl1 : upd H5 l (.lst (rs.map V.ref)) l = some (.lst (rs.map V.ref)) := upd_same
  generalize upd H5 l (.lst (rs.map V.ref)) = H6 at *
  have ch6 := ch5.trans (.of e6)
  refine ⟨_, rfl, a, _, _, 0, _, rfl, rfl, ch6.sqTd fd hta, rfl, rfl, ?_⟩
  dsimp only [tNil]
  refine ⟨l, m, w', R, rfl, ⟨rs, hl1, ch6.alld fd hrows⟩, sm, ch6.tabs hT, fun H7 qF F2 e7 hF2 fo2 => ?_⟩
  have ch7 := ch6.trans (.of e7)
  have hG7 := (e6.trans e7).rl hG
  have fd7 := (e5.trans (e6.trans e7)).feedAt fd4'
  dsimp only [gName]
  have rlen : ∀ r ∈ G, r.length = w' := fun r hr => ((mem r).mp hr).1
  have rbit : ∀ r ∈ G, ∀ j, (rf r j).natAbs < 2 ^ 1639 := fun r hr j => few.row_bits (rlen r hr) ((mem r).mp hr).2 j
  refine et_ne (ep_lenR hG7 (ep_var rfl)) (ep_var rfl) _ ?_
  refine ite2 (fun hne => ?_) fun _ => ?_
  · have hne : (G.length : Int) ≠ cntF w' F' := of_decide_eq_true hne
    exact absurd (by rw [hGl, hcnt]) hne
  refine test_of (filt_lc (T := T) (fun r => decide (restF F2 r ≠ r)) (fun Q q => ⟨_, rfl, q _ pG (.refl _) hG7⟩) (by omega) (fun x => ⟨rfl, rfl⟩) (fun H8 q r Q e8 hr hm hq => ?_) fun H8 pE e8 hE => ?_)
  · refine ⟨_, rfl, _, rfl, qF, q, w', 1639, R, F2, r, rfl, e8.rl hF2, fo2, sm.hw, hr, rlen r hm, rbit r hm, by decide, fun H9 p9 e9 h9 => ?_⟩
    refine ⟨_, rfl, rowD _, rowD r, dp_row h9, dp_row (e9.row hr), shaped_row _, shaped_row _, _, rfl, ?_⟩
    rw [eqv_rows, ← decide_not]
    exact hq _ e9
  have hnil : G.filter (fun r => decide (restF F2 r ≠ r)) = [] := List.filter_eq_nil_iff.mpr fun r hr => by
    rw [rest_same fo2 (rlen r hr) ((mem r).mp hr).2]; simp
  rw [hnil] at hE
  obtain ⟨asE, hE1, hE2⟩ := hE
  cases hE2
  refine ⟨Nat.zero_le _, fun l2 hl2 => ⟨.list [], .list [], .lst (Ex.sqL (T := T) (.new hl2) (.of hE1)) .nil, .lst (.of upd_same) .nil, rfl, rfl, _, rfl, ?_⟩⟩
  have e9 : Ex T H8 (upd H8 l2 (.lst [])) := .new hl2
  generalize upd H8 l2 (.lst []) = H9 at *
  have hnn : PyData.eqv (.list []) (.list []) = true := rfl
  rw [hnn]
  refine iteF ?_
  have ch9 := ch7.trans ((Chg.of e8).trans (.of e9))
  have fd9 := (e8.trans e9).feedAt fd7
  have hG9 := (e8.trans e9).rl hG7
  -- killed
  refine ⟨_, rfl, d, c, 12, _, rfl, fd9, by omega, by decide, by decide, fun H10 v1 ch10 fd10 hv1 => ?_⟩
  refine ⟨_, _, rfl, rfl, _, rfl, d, c, 4, _, rfl, fd10, by omega, by decide, by decide, fun H11 v2 ch11 fd11 hv2 => ?_⟩
  have ch911 := ch10.trans ch11
  have hG11 := ch911.rld fd9 hG9
  have chA := ch9.trans ch911
  refine ⟨_, _, rfl, rfl, _, rfl, by show 3 ≤ _; decide, fun pt hpt => ?_⟩
  dsimp (config := { proj := false }) only
  have e12 : Ex T H11 (upd H11 pt (.tup [.int (1 + (v1 : Int)), .int (1 + (v2 : Int)), .int (lastA ds)])) := .new hpt
  have hs12 : SqT K (upd H11 pt (.tup [.int (1 + (v1 : Int)), .int (1 + (v2 : Int)), .int (lastA ds)])) pt [.int (1 + (v1 : Int)), .int (1 + (v2 : Int)), .int (lastA ds)] := sqT_of upd_same
  generalize upd H11 pt (.tup [.int (1 + (v1 : Int)), .int (1 + (v2 : Int)), .int (lastA ds)]) = H12 at *
  have chB := chA.trans (.of e12)
  have fdB := e12.feedAt fd11
  have hGB := e12.rl hG11
  refine ⟨pt, rfl, ⟨_, hs12⟩, for_it walk_tup (fun i σ H' => ∃ (u10 u11 u12 u13 : Option V), Ex T H12 H' ∧
      σ = [some (.ref d), some (.ref a), some (.int (cntF w' F')), some (.ref qa), some (.int ((w' : Int) - (((ds.filter fun d => decide (0 < d)).length : Nat) : Int))), some (.int (lastA ds)), u6, u7, some (.ref pG), some (.ref qF), u10, u11, u12, u13])
    ⟨u10, u11, u12, u13, .refl _, rfl⟩ (fun i σ H' _ ⟨_, _, _, _, h, _⟩ => h.sqT hs12) ?_ ?_⟩
  · rintro i x σ H13 H14 hi ⟨u10, u11, u12, u13, ex, rfl⟩ ⟨rfl, hx⟩
    obtain ⟨nn, rfl, n1, n2⟩ : ∃ nn : Nat, x = .int (nn : Int) ∧ 1 ≤ nn ∧ nn ≤ 100 := by
      rcases i with _ | _ | _ | i
      · cases hx; exact ⟨1 + v1, by rw [Int.natCast_add]; rfl, by omega, by omega⟩
      · cases hx; exact ⟨1 + v2, by rw [Int.natCast_add]; rfl, by omega, by omega⟩
      · cases hx; exact ⟨(lastA ds).toNat, by rw [hmn], by omega, by omega⟩
      · exact absurd hi (by simp)
    have chC := chB.trans (.of ex)
    have hGC := ex.rl hGB
    refine seq_asg (filt_lc (T := T) (fun r => cb (Lat R fun j => (nn : Int) * rf r j)) (fun Q q => ⟨_, rfl, q _ pG (.refl _) hGC⟩) (by omega) (fun x => ⟨rfl, rfl⟩) (fun H15 q r Q e15 hr hm hq => ?_) fun H15 pS e15 hS => ?_)
    · have chD := chC.trans (.of e15)
      refine ⟨_, rfl, by show 1 ≤ _; decide, fun p0 hp0 => ?_⟩
      refine ⟨_, rfl, a, _, _, 0, _, rfl, rfl, Ex.sqT (T := T) (.new hp0) (chD.sqTd fd hta), rfl, rfl, p0, _, w', _, rfl, rfl, sqT_of upd_same, rfl, hw1, by omega, fun pz Hz hz hs => ?_⟩
      obtain ⟨ez, zrow⟩ := zero_row (T := T) hz hp0 hs
      refine ⟨_, rfl, _, rfl, ?_⟩
      dsimp only [tNil]
      have kb : (((nn : Nat) : Int)).natAbs < 2 ^ 10 := by omega
      have hpl := rlen r hm
      obtain ⟨ht1, ht2⟩ := rf_times (nn : Int) hpl
      refine ⟨pz, q, (nn : Int), _, r, rfl, zrow, ez.row hr, by rw [List.length_replicate, hpl], by rw [List.length_replicate]; omega, fun j _ => mulOk_bits kb (rbit r hm j) (by decide), fun H16 q16 e16 h16 => ?_⟩
      have ez16 := ez.trans e16
      have chE := chD.trans (.of ez16)
      refine ⟨a, q16, m, w', 1649, R, _, rfl, chE.tabd fd hat, sm, chE.tabs hT, h16, ht2, fun j => bits_times (ht1 j) (rbit r hm j) kb, by decide, fun H17 cc e17 hcc => ⟨cc, rfl, ?_⟩⟩
      have eq : Lat R (rf (addk (List.replicate w' 0) r (nn : Int))) ↔ Lat R (fun j => (nn : Int) * rf r j) := by
        have : rf (addk (List.replicate w' 0) r (nn : Int)) = fun j => (nn : Int) * rf r j := funext ht1
        rw [this]
      have hcb := cb_of (hcc.trans eq)
      subst hcb
      exact hq _ (ez16.trans e17)
    · dsimp only [gName]
      have chD := chC.trans (.of e15)
      refine ⟨_, rfl, _, rfl, a, m, w', nn, R, rfl, chD.tabd fd hat, sm.tab, sm.bd, sm.hm, sm.hw, fun H16 ds6 C6 e16 rb6 => ?_⟩
      have hk := kill_count2 rb6 hR fo.form hfull nd mem (nn : Int)
      have hle := List.length_filter_le (fun r => cb (Lat R fun j => (nn : Int) * rf r j)) G
      rw [← hk]
      obtain ⟨z2, hz2⟩ := repV_int (i := (((G.filter fun r => cb (Lat R fun j => (nn : Int) * rf r j)).length : Nat) : Int)) (Nat.lt_of_le_of_lt (show _ ≤ 40 by omega) (Nat.lt_of_lt_of_le (show 40 < 2 ^ 6 by decide) (Nat.pow_le_pow_right (by decide) (by decide))))
      refine ⟨_, z2, rfl, hz2, ?_⟩
      refine ep_lenR (e16.rl hS) (ep_var rfl) _ ?_
      refine ⟨_, z2, rfl, hz2, rfl, _, rfl, ?_⟩
      rw [decide_eq_true rfl]
      refine iteF ?_
      exact ⟨_, _, _, _, (ex.trans e15).trans e16, rfl⟩
  · rintro σ H13 ⟨u10, u11, u12, u13, ex, rfl⟩
    exact k _ (chB.trans (.of ex)) ((ex.feedAt fdB).le (by omega))
end
end K94

set_option Elab.async false
set_option linter.all false
set_option maxRecDepth 100000
set_option maxHeartbeats 4000000
namespace K94
open PySem PySem.Spec PyProof.Rows L2
section
variable {P : Program} {w : World} {K : PySem.W.Frag} {mg : Str → Option Value} {base : Heap} {T : TabL}
/-! ### the law -/
theorem Bd.mono {A B : Nat} {R : List Row} (h : Bd A R) (hab : A ≤ B) : Bd B R := fun i j => Nat.le_trans (h i j) hab
theorem int_eq {i j : Nat} : (if (decide (V.int (j : Int) = V.int (i : Int))) = true then (1 : Int) else 0) = if j = i then 1 else 0 := by
  rw [veq]
  by_cases h : j = i
  · subst h; simp
  · rw [decide_eq_false (by omega), if_neg h]; rfl
/-- a pair of tables -/
structure PairAt (K : PySem.W.Frag) (w : Nat) (H : Hp) (p : Addr) (a b : Addr) (m1 m2 : Nat) (R1 R2 : List Row) : Prop where
  tup : SqT K H p [.ref a, .ref b]
  t1 : TabAt K H a w R1
  t2 : TabAt K H b w R2
  s1 : Small m1 w R1
  s2 : Small m2 w R2
def scRows : Scope := { kind := .function, names := [(".0", .local), ("_law_k", .cell), ("tuple", .globalImplicit), ("range", .globalImplicit), ("_law_wide", .cell)], isGenerator := false, isCoroutine := false }
theorem fnOk_of {x : Str} {st : Stmt} {N ps : List Str} {k : Nat} {sp : Sp} {f : Addr} {fd : FuncData} (F : FunD K x x (defArgs st) (defBody st) (defScope st) [] [] f fd) (S : FnScope N ps (defScope st)) (len : ∀ vs H Q E, sp vs H Q E → vs.length = ps.length)
    (hbody : ∀ (f : Addr) (cdv : Value) (A : Around) (outer : List Env) (s : Shared) (H : Hp) (vs : List V) (Q : VK) (E : XK), Room k (A.deeper (envOfC x (defScope st) s.heap.objs.size f cdv)) → sp vs H Q E →
      ∃ t, PSs (cxOf CX0 P w K mg base N x (defScope st) f cdv A outer s H E).nox (defBody st) t ∧ t { nx := fun _ H' => Q .non H', rt := Q } (L2.start N vs) H) : FnOk P w K mg base CX0 (k + 1) f fd ps sp := by
  refine F.ok S len fun cdv A outer s H vs Q E hr hsp => ?_
  obtain ⟨t, h, q⟩ := hbody f cdv A outer s H vs Q E hr hsp
  exact ⟨t, h.nox, q⟩
def spLaw (T : TabL) (K : PySem.W.Frag) : Sp := fun vs H Q _ => ∃ (a : Addr) (ns : List Int), vs = [.ref a] ∧ SqL K H a (ns.map V.int) ∧ LamX.Tabs T H ∧ ∀ H', Q (.bl true) H'
theorem sc_law : FnScope ["_law_script", "_law_feed_here", "_law_wide", "_law_first_here", "_law_second", "_law_third", "_law_pairs", "_law_both", "_law_rows", "_law_whole", "_law_one", "_law_other", "_law_k", "_law_j"] ["_law_script"] (defScope s_law) := ⟨rfl, rfl, rfl, by decide +kernel, rfl, by decide +kernel, by decide +kernel⟩
theorem fn_law {fl : Addr} {fdl : FuncData} (F : FunD K "law" "law" (defArgs s_law) (defBody s_law) (defScope s_law) [] [] fl fdl) (B : Bi mg) (c_Lfeed : C8.Cal P w K mg base 1 "_law_feed" (spLfeed T K) []) (c_Ldraw : C8.Cal P w K mg base 1 "_law_draw" (spLdraw T K) []) (c_Lfirst : C8.Cal P w K mg base 2 "_law_first" (spLfirst T K) []) (c_Lsums : C8.Cal P w K mg base 2 "_law_sums" (spLsums T K) []) (c_Linside_right : C8.Cal P w K mg base 12 "_law_inside_right" (spLinside T K) []) (c_index_of : C8.Cal P w K mg base 11 "index_of" (spIndex T K) []) (c_Lleft_right : C8.Cal P w K mg base 9 "_law_left_right" (spLleft T K) []) : FnOk P w K mg base CX0 13 fl fdl ["_law_script"] (spLaw T K) := by
  refine fnOk_of F sc_law (fun vs H Q E h => ?_) (fun f cdv A outer s H vs Q E hr h => ?_)
  · obtain ⟨a, ns, rfl, _⟩ := h
    rfl
  obtain ⟨a, ns, rfl, ha, hT, k⟩ := h
  refine ⟨_,
  (pss_cons (ps_set (i := 1) sc_law.nd rfl (by first | exact Or.inl rfl | exact Or.inr rfl) (C8.pe_c c_Lfeed hr (by decide) rfl (pa_cons (pv 0) pa_nil)))
  (pss_cons (ps_set (i := 2) sc_law.nd rfl (by first | exact Or.inl rfl | exact Or.inr rfl) (pe_ix (ix_lrow K) (pe_lst (pa_cons pe_int (pa_cons pe_int (pa_cons pe_int (pa_cons pe_int pa_nil))))) (C8.pe_c c_Ldraw hr (by decide) rfl (pa_cons (pv 1) (pa_cons pe_int pa_nil))) (fun _ _ => rfl)))
  (pss_cons (ps_set (i := 3) sc_law.nd rfl (by first | exact Or.inl rfl | exact Or.inr rfl) (C8.pe_c c_Lfirst hr (by decide) rfl (pa_cons (pv 1) (pa_cons (pv 2) pa_nil))))
  (pss_cons (ps_set (i := 4) sc_law.nd rfl (by first | exact Or.inl rfl | exact Or.inr rfl) (C8.pe_c c_Lsums hr (by decide) rfl (pa_cons (pv 1) (pa_cons (pv 3) pa_nil))))
  (pss_cons (ps_set (i := 5) sc_law.nd rfl (by first | exact Or.inl rfl | exact Or.inr rfl) (C8.pe_c c_Lsums hr (by decide) rfl (pa_cons (pv 1) (pa_cons (pv 4) pa_nil))))
  (pss_cons (ps_set (i := 6) sc_law.nd rfl (by first | exact Or.inl rfl | exact Or.inr rfl) (pe_lst (pa_cons (pe_tup (pa_cons (pv 5) (pa_cons (pv 4) pa_nil))) (pa_cons (pe_tup (pa_cons (pv 4) (pa_cons (pv 3) pa_nil))) (pa_cons (pe_tup (pa_cons (pv 3) (pa_cons (pv 5) pa_nil))) pa_nil)))))
  (pss_cons (ps_set (i := 6) sc_law.nd rfl (by first | exact Or.inl rfl | exact Or.inr rfl) (pe_op op_cat (pv 6) (pe_lst (pa_cons (pe_tup (pa_cons (pv 4) (pa_cons (pv 5) pa_nil))) (pa_cons (pe_tup (pa_cons (pv 5) (pa_cons (pv 5) pa_nil))) pa_nil)))))
  (pss_cons (ps_if (pt_cmpR op_in_seq pe_bl (pe_lc (own := [("_law_one", 10), ("_law_other", 11)]) (by rfl) sc_law.nd (pi_lK K rfl (pv 6)) (blkOk_by (own := [("_law_one", 10), ("_law_other", 11)]) (N := ["_law_script", "_law_feed_here", "_law_wide", "_law_first_here", "_law_second", "_law_third", "_law_pairs", "_law_both", "_law_rows", "_law_whole", "_law_one", "_law_other", "_law_k", "_law_j"]) (sc := defScope s_law) (by decide +kernel)) (fun _ _ _ _ _ => (pg_tK K rfl (n := 2) (pgs_cons (pg_name (i := 10) sc_law.nd rfl (by first | exact Or.inl rfl | exact Or.inr rfl)) (pgs_cons (pg_name (i := 11) sc_law.nd rfl (by first | exact Or.inl rfl | exact Or.inr rfl)) pgs_nil)))) (fun _ _ _ _ _ => pts_nil) (fun _ _ _ _ _ => (C8.pe_c c_Linside_right hr (by decide) rfl (pa_cons (pv 10) (pa_cons (pv 11) pa_nil))))) rfl)
    (pss_one (ps_ret pe_bl))
    pss_nil)
  (pss_cons (ps_set (i := 7) sc_law.nd rfl (by first | exact Or.inl rfl | exact Or.inr rfl) (pe_op op_mulB (C8.pe_c c_index_of hr (by decide) rfl (pa_cons (pv 5) (pa_cons (pv 4) pa_nil))) (C8.pe_c c_index_of hr (by decide) rfl (pa_cons (pv 4) (pa_cons (pv 3) pa_nil)))))
  (pss_cons (ps_if (PW.pt (pw_or (pt_cmpR op_ne (pv 7) (C8.pe_c c_index_of hr (by decide) rfl (pa_cons (pv 5) (pa_cons (pv 3) pa_nil))) (nomark _)) (pw_or1 (pt_cmpR op_ne (C8.pe_c c_index_of hr (by decide) rfl (pa_cons (pv 5) (pa_cons (pv 5) pa_nil))) pe_int (nomark _)))))
    (pss_one (ps_ret pe_bl))
    pss_nil)
  (pss_cons (ps_setLc (i := 8) (own := [("_law_k", 12)]) (by rfl) sc_law.nd rfl rfl (sw_true rfl rfl rfl (by decide +kernel)) (pi_rgN rfl B.range (pa_cons (pv 2) pa_nil)) (blkOk_by (own := [("_law_k", 12)]) (N := ["_law_script", "_law_feed_here", "_law_wide", "_law_first_here", "_law_second", "_law_third", "_law_pairs", "_law_both", "_law_rows", "_law_whole", "_law_one", "_law_other", "_law_k", "_law_j"]) (sc := defScope s_law) (by decide +kernel)) (fun _ _ _ _ _ => (pg_name (i := 12) sc_law.nd rfl (by first | exact Or.inl rfl | exact Or.inr rfl))) (fun _ _ _ _ _ => pts_nil) (fun _ _ _ _ _ => (pe_callTy (call_tupK K) (by rfl) B.tuple (by decide +kernel) (pa_cons (pe_lc (own := [("_law_j", 13)]) (by rfl) sc_law.nd (pi_rgN rfl B.range (pa_cons (pv 2) pa_nil)) (blkOk_by (own := [("_law_j", 13)]) (N := ["_law_script", "_law_feed_here", "_law_wide", "_law_first_here", "_law_second", "_law_third", "_law_pairs", "_law_both", "_law_rows", "_law_whole", "_law_one", "_law_other", "_law_k", "_law_j"]) (sc := scRows) (by decide +kernel)) (fun _ _ _ _ _ => (pg_name (i := 13) sc_law.nd rfl (by first | exact Or.inl rfl | exact Or.inr rfl))) (fun _ _ _ _ _ => pts_nil) (fun _ _ _ _ _ => (pe_callTy call_int1 (by rfl) B.int (by decide +kernel) (pa_cons (pe_cmpR op_eq (pv 13) (pv 12) (nomark _)) pa_nil)))) pa_nil))))
  (pss_cons (ps_set (i := 9) sc_law.nd rfl (by first | exact Or.inl rfl | exact Or.inr rfl) (pe_tup (pa_cons (pv 2) (pa_cons (pe_callTy (call_tupK K) (by rfl) B.tuple (by decide +kernel) (pa_cons (pv 8) pa_nil)) pa_nil))))
  (pss_cons (ps_if (pt_not (pt_val (C8.pe_c c_Lleft_right hr (by decide) rfl (pa_cons (pv 1) (pa_cons (pv 5) (pa_cons (C8.pe_c c_index_of hr (by decide) rfl (pa_cons (pv 5) (pa_cons (pv 9) pa_nil))) pa_nil))))))
    (pss_one (ps_ret pe_bl))
    pss_nil)
  (pss_one (ps_ret (C8.pe_c c_Lleft_right hr (by decide) rfl (pa_cons (pv 1) (pa_cons (pv 3) (pa_cons (C8.pe_c c_index_of hr (by decide) rfl (pa_cons (pv 3) (pa_cons (pv 9) pa_nil))) pa_nil))))))))))))))))))), ?_⟩
  refine ⟨_, rfl, a, ns, rfl, ha, fun H1 d c e1 hd fd => ?_⟩
  dsimp only [gName]
  have hT1 := e1.tabs hT
  refine ⟨by show 4 ≤ _; decide, fun q hq => ?_⟩
  have e2 : Ex T H1 (upd H1 q (.lst ([2, 1, 3, 2].map V.int))) := .new hq
  have hq1 : upd H1 q (.lst ([2, 1, 3, 2].map V.int)) q = some (.lst ([2, 1, 3, 2].map V.int)) := upd_same
  have fd2 := e2.feedAt fd
  refine ⟨_, rfl, d, c, 4, _, rfl, fd2, by omega, by omega, by omega, fun H3 v c3 fd3 hv => ?_⟩
  refine ⟨q, [2, 1, 3, 2], _, v, rfl, rfl, .of (c3.lstd fd2 hq1), rfl, by show v < 4; omega, ?_⟩
  obtain ⟨w', hw1, hw3, hw⟩ : ∃ w' : Nat, 1 ≤ w' ∧ w' ≤ 3 ∧ rf [2, 1, 3, 2] v = (w' : Int) := by
    match v, hv with
    | 0, _ => exact ⟨2, by decide, by decide, rfl⟩
    | 1, _ => exact ⟨1, by decide, by decide, rfl⟩
    | 2, _ => exact ⟨3, by decide, by decide, rfl⟩
    | 3, _ => exact ⟨2, by decide, by decide, rfl⟩
  rw [hw]
  have hT3 := c3.tabs (e2.tabs hT1)
  dsimp only [gName]
  refine ⟨_, rfl, _, rfl, d, c, w', _, rfl, fd3, by omega, hw1, hw3, fun H4 a1 m1 R1 c4 fd4 t1 tab1 bd1 m13 => ?_⟩
  have hT4 := c4.tabs hT3
  dsimp only [gName]
  refine ⟨_, rfl, _, rfl, d, c, a1, m1, w', _, 2, R1, rfl, fd4, by omega, t1, tab1, m13, hw3, hw1, bd1, by omega, fun H5 a2 m2 R2 c5 fd5 t2 tab2 bd2 m21 sub21 => ?_⟩
  have hT5 := c5.tabs hT4
  have t15 := c5.tabd fd4 t1
  dsimp only [gName]
  refine ⟨_, rfl, _, rfl, d, c, a2, m2, w', _, 10, R2, rfl, fd5, by omega, t2, tab2, by omega, hw3, hw1, bd2, by omega, fun H6 a3 m3 R3 c6 fd6 t3 tab3 bd3 m32 sub32 => ?_⟩
  have hT6 := c6.tabs hT5
  have t16 := c6.tabd fd5 t15
  have t26 := c6.tabd fd5 t2
  have s1 : Small m1 w' R1 := ⟨tab1, bd1.mono (by decide), m13, hw3⟩
  have s2 : Small m2 w' R2 := ⟨tab2, bd2.mono (by decide), by omega, hw3⟩
  have s3 : Small m3 w' R3 := ⟨tab3, bd3, by omega, hw3⟩
  dsimp only [gName]
  -- pairs
  refine ⟨_, rfl, _, rfl, by show 2 ≤ _; decide, fun p1 hp1 => ?_⟩
  have x1 : Ex T H6 (upd H6 p1 (.tup [.ref a3, .ref a2])) := .new hp1
  have r1 : SqT K (upd H6 p1 (.tup [.ref a3, .ref a2])) p1 [.ref a3, .ref a2] := sqT_of upd_same
  generalize upd H6 p1 (.tup [.ref a3, .ref a2]) = H7 at *
  refine ⟨_, rfl, _, rfl, by show 2 ≤ _; decide, fun p2 hp2 => ?_⟩
  have x2 : Ex T H7 (upd H7 p2 (.tup [.ref a2, .ref a1])) := .new hp2
  have r2 : SqT K (upd H7 p2 (.tup [.ref a2, .ref a1])) p2 [.ref a2, .ref a1] := sqT_of upd_same
  generalize upd H7 p2 (.tup [.ref a2, .ref a1]) = H8 at *
  refine ⟨_, rfl, _, rfl, by show 2 ≤ _; decide, fun p3 hp3 => ?_⟩
  have x3 : Ex T H8 (upd H8 p3 (.tup [.ref a1, .ref a3])) := .new hp3
  have r3 : SqT K (upd H8 p3 (.tup [.ref a1, .ref a3])) p3 [.ref a1, .ref a3] := sqT_of upd_same
  generalize upd H8 p3 (.tup [.ref a1, .ref a3]) = H9 at *
  refine ⟨by show 3 ≤ _; decide, fun l1 hl1 => ?_⟩
  have x4 : Ex T H9 (upd H9 l1 (.lst [.ref p1, .ref p2, .ref p3])) := .new hl1
  have r4 : upd H9 l1 (.lst [.ref p1, .ref p2, .ref p3]) l1 = some (.lst [.ref p1, .ref p2, .ref p3]) := upd_same
  generalize upd H9 l1 (.lst [.ref p1, .ref p2, .ref p3]) = H10 at *
  dsimp only [gName]
  refine ⟨_, rfl, _, rfl, _, rfl, by show 2 ≤ _; decide, fun p4 hp4 => ?_⟩
  have x5 : Ex T H10 (upd H10 p4 (.tup [.ref a2, .ref a3])) := .new hp4
  have r5 : SqT K (upd H10 p4 (.tup [.ref a2, .ref a3])) p4 [.ref a2, .ref a3] := sqT_of upd_same
  generalize upd H10 p4 (.tup [.ref a2, .ref a3]) = H11 at *
  refine ⟨_, rfl, _, rfl, by show 2 ≤ _; decide, fun p5 hp5 => ?_⟩
  have x6 : Ex T H11 (upd H11 p5 (.tup [.ref a3, .ref a3])) := .new hp5
  have r6 : SqT K (upd H11 p5 (.tup [.ref a3, .ref a3])) p5 [.ref a3, .ref a3] := sqT_of upd_same
  generalize upd H11 p5 (.tup [.ref a3, .ref a3]) = H12 at *
  refine ⟨by show 2 ≤ _; decide, fun l2 hl2 => ?_⟩
  have x7 : Ex T H12 (upd H12 l2 (.lst [.ref p4, .ref p5])) := .new hl2
  have r7 : upd H12 l2 (.lst [.ref p4, .ref p5]) l2 = some (.lst [.ref p4, .ref p5]) := upd_same
  generalize upd H12 l2 (.lst [.ref p4, .ref p5]) = H13 at *
  have x57 := (x5.trans x6).trans x7
  refine ⟨l1, l2, _, _, rfl, rfl, x57.lst r4, r7, by show 5 ≤ _; decide, fun l3 hl3 => ?_⟩
  have x8 : Ex T H13 (upd H13 l3 (.lst ([.ref p1, .ref p2, .ref p3] ++ [.ref p4, .ref p5]))) := .new hl3
  have r8 : upd H13 l3 (.lst ([.ref p1, .ref p2, .ref p3] ++ [.ref p4, .ref p5])) l3 = some (.lst [.ref p1, .ref p2, .ref p3, .ref p4, .ref p5]) := upd_same
  generalize upd H13 l3 (.lst ([.ref p1, .ref p2, .ref p3] ++ [.ref p4, .ref p5])) = H14 at *
  have y78 := x7.trans x8
  have y68 := x6.trans y78
  have y58 := x5.trans y68
  have y48 := x4.trans y58
  have y38 := x3.trans y48
  have y28 := x2.trans y38
  have xx := x1.trans y28
  have hT14 := xx.tabs hT6
  have fd14 := xx.feedAt fd6
  have u1 := xx.tab t16
  have u2 := xx.tab t26
  have u3 := xx.tab t3
  have five : ∀ (i : Nat) (x : V), ([V.ref p1, .ref p2, .ref p3, .ref p4, .ref p5] : List V)[i]? = some x → ∃ p u v mu mv Ru Rv, x = .ref p ∧ PairAt K w' H14 p u v mu mv Ru Rv := by
    intro i x hx
    match i, hx with
    | 0, hx => cases hx; exact ⟨p1, a3, a2, m3, m2, R3, R2, rfl, ⟨y28.sqT r1, u3, u2, s3, s2⟩⟩
    | 1, hx => cases hx; exact ⟨p2, a2, a1, m2, m1, R2, R1, rfl, ⟨y38.sqT r2, u2, u1, s2, s1⟩⟩
    | 2, hx => cases hx; exact ⟨p3, a1, a3, m1, m3, R1, R3, rfl, ⟨y48.sqT r3, u1, u3, s1, s3⟩⟩
    | 3, hx => cases hx; exact ⟨p4, a2, a3, m2, m3, R2, R3, rfl, ⟨y68.sqT r5, u2, u3, s2, s3⟩⟩
    | 4, hx => cases hx; exact ⟨p5, a3, a3, m3, m3, R3, R3, rfl, ⟨y78.sqT r6, u3, u3, s3, s3⟩⟩
    | i + 5, hx => simp at hx
  dsimp only [gName]
  refine ⟨_, rfl, l3, rfl, ⟨_, .of r8⟩, fun D hD => ?_⟩
  refine lc_fn (T := T) walk_list hD (by show 5 ≤ _; decide) (fun _ => V.bl true) (fun _ e => .of (e.lst r8)) ?_ gmono_two ?_
  · rintro i x H15 H16 hi e ⟨rfl, hx⟩ K1 hk
    obtain ⟨p, u, v, mu, mv, Ru, Rv, rfl, pr⟩ := five i x hx
    refine pair_g (e.sqT pr.tup) ⟨rfl, _, rfl, _, rfl, u, v, mu, mv, w', Ru, Rv, rfl, e.tab pr.t1, e.tab pr.t2, pr.s1, pr.s2, e.tabs hT14, fun H17 e17 => hk _ e17⟩
  intro H15 hD15 e15
  have hD15 : H15 D = some (.lst ([true, true, true, true, true].map V.bl)) := hD15
  have hin : inV (.bl false) ([true, true, true, true, true].map V.bl) = false := by rw [inV_bools]; rfl
  refine ⟨D, _, rfl, .inl (.of hD15), rfl, flat_bools _, _, rfl, ?_⟩
  rw [if_neg (by decide), hin]
  refine iteF ?_
  -- indexes
  have hT15 := e15.tabs hT14
  refine ⟨_, rfl, _, rfl, a3, a2, m3, m2, w', R3, R2, rfl, e15.tab u3, e15.tab u2, s3, s2, hT15, fun H16 v1 e16 _ hy1 => ?_⟩
  obtain ⟨F3, G2, f3, g2, rfl⟩ := hy1 sub32
  have e1516 := e15.trans e16
  refine ⟨_, rfl, _, rfl, a2, a1, m2, m1, w', R2, R1, rfl, e1516.tab u2, e1516.tab u1, s2, s1, e16.tabs hT15, fun H17 v2 e17 _ hy2 => ?_⟩
  obtain ⟨F2, G1, f2, g1, rfl⟩ := hy2 sub21
  have e1517 := e1516.trans e17
  refine ⟨_, _, rfl, rfl, mulOk_bits (a := 1920) (b := 1920) (f3.ix_bits g2 hw3) (f2.ix_bits g1 hw3) (by decide), ?_⟩
  dsimp only [gName]
  refine ⟨_, rfl, _, rfl, _, rfl, a3, a1, m3, m1, w', R3, R1, rfl, e1517.tab u3, e1517.tab u1, s3, s1, e1517.tabs hT14, fun H18 v3 e18 _ hy3 => ?_⟩
  obtain ⟨F3', G1', f3', g1', rfl⟩ := hy3 (sub32.trans sub21)
  have e1518 := e1517.trans e18
  have hmul : ixF F3 G2 * ixF F2 G1 = ixF F3' G1' := by
    rw [ixF_uniq f2.form g2.form g1.form g1.form, ixF_trans f3.form g2.form g1.form sub32 sub21, ixF_uniq f3.form f3'.form g1.form g1'.form]
  refine ⟨rfl, _, rfl, ?_⟩
  rw [vne, hmul, decide_eq_false (fun q : ixF F3' G1' ≠ ixF F3' G1' => q rfl)]
  refine iteF ?_
  refine ⟨_, rfl, _, rfl, a3, a3, m3, m3, w', R3, R3, rfl, e1518.tab u3, e1518.tab u3, s3, s3, e1518.tabs hT14, fun H19 v4 e19 _ hy4 => ?_⟩
  obtain ⟨F4, G4, f4, g4, rfl⟩ := hy4 (.refl _)
  have e1519 := e1518.trans e19
  refine ⟨rfl, _, rfl, ?_⟩
  rw [vne, ixF_self f4.form g4.form, decide_eq_false (fun q : (1 : Int) ≠ 1 => q rfl)]
  refine iteF ?_
  -- all points
  refine ⟨_, rfl, _, w', rfl, rfl, by omega, fun D2 hD2 => ?_⟩
  refine lc_obj (T := T) (A := RowAt K) walk_N0 hD2 (by omega) (fun i => unitRow w' i) (fun H H' p b h e => e.row h) (fun H p b l l' h hD => row_upd h hD) (fun _ _ => trivial) ?_ gmono_name fun bs H21 hD21 al e21 => ?_
  · rintro i x H20 H21 hi e ⟨rfl, rfl⟩ K1 hk
    refine ⟨rfl, _, rfl, _, w', rfl, rfl, by omega, fun E2 hE2 => ?_⟩
    refine lc_fn (T := T) walk_N0 hE2 (by omega) (fun j => V.int (if j = i then 1 else 0)) (fun _ _ => trivial) ?_ gmono_name ?_
    · rintro j x H22 H23 hj e2 ⟨rfl, rfl⟩ K2 hk2
      refine ⟨rfl, _, rfl, _, rfl, rfl, .inr ⟨_, rfl, ?_⟩⟩
      rw [int_eq]
      exact hk2 _ (.refl _)
    · intro H22 hE22 e22
      have e3 : (List.range w').map (fun j => V.int (if j = i then 1 else 0)) = (unitRow w' i).map V.int := by unfold unitRow; rw [List.map_map]; rfl
      rw [e3] at hE22
      exact ⟨E2, _, rfl, .inl ⟨.of hE22, fun p hp => hk p _ (e22.trans (.new hp)) (row_of upd_same)⟩⟩
  have al : All2 (RowAt K H21) bs (unitRows w') := al
  dsimp only [gName]
  refine ⟨_, rfl, _, rfl, D2, _, rfl, .inl ⟨.of hD21, fun pt hpt => ?_⟩⟩
  refine ⟨by show 2 ≤ _; decide, fun pw hpw => ?_⟩
  have e22 : Ex T H21 (upd H21 pt (.tup (bs.map V.ref))) := .new hpt
  have tw : TabAt K (upd (upd H21 pt (.tup (bs.map V.ref))) pw (.tup [.int (w' : Int), .ref pt])) pw w' (unitRows w') := ⟨pt, sqT_of upd_same, bs, (Ex.new hpw).sqT (T := T) (sqT_of upd_same), (e22.trans (.new hpw)).all al⟩
  have e23 : Ex T H21 (upd (upd H21 pt (.tup (bs.map V.ref))) pw (.tup [.int (w' : Int), .ref pt])) := e22.trans (.new hpw)
  generalize upd (upd H21 pt (.tup (bs.map V.ref))) pw (.tup [.int (w' : Int), .ref pt]) = H23 at *
  have e1423 := (e1519.trans e21).trans e23
  have hT23 := e1423.tabs hT14
  have fd23 := e1423.feedAt fd14
  have v1 := e1423.tab u1
  have v3 := e1423.tab u3
  have sU : Small w' w' (unitRows w') := ⟨unit_tab w', fun i j => Nat.le_trans (unit_bd w' i j) (by decide), hw3, hw3⟩
  dsimp only [gName]
  refine ⟨_, rfl, _, rfl, _, rfl, _, rfl, a3, pw, m3, w', w', R3, unitRows w', rfl, v3, tw, s3, sU, hT23, fun H24 v5 e24 _ hy5 => ?_⟩
  obtain ⟨F5, G5, f5, g5, rfl⟩ := hy5 (sub_unit tab3.wid)
  dsimp only [tNil]
  refine ⟨d, c, a3, m3, w', _, R3, F5, by rw [ixF_unit f5.form g5.form]; rfl, e24.feedAt fd23, by omega, e24.tab v3, s3, hw1, e24.tabs hT23, f5, fun H25 c25 fd25 => ?_⟩
  have c2325 := (Chg.of e24).trans c25
  refine ⟨_, rfl, ?_⟩
  refine iteF ?_
  refine ⟨_, rfl, _, rfl, _, rfl, _, rfl, a1, pw, m1, w', w', R1, unitRows w', rfl, c2325.tabd fd23 v1, c2325.tabd fd23 tw, s1, sU, c2325.tabs hT23, fun H26 v6 e26 _ hy6 => ?_⟩
  obtain ⟨F6, G6, f6, g6, rfl⟩ := hy6 (sub_unit tab1.wid)
  dsimp only [tNil]
  exact ⟨d, c, a1, m1, w', _, R1, F6, by rw [ixF_unit f6.form g6.form]; rfl, e26.feedAt fd25, by omega, e26.tab (c2325.tabd fd23 v1), s1, hw1, e26.tabs (c2325.tabs hT23), f6, fun H27 _ _ => k H27⟩
end
end K94

set_option Elab.async false
set_option linter.all false
set_option maxRecDepth 100000
set_option maxHeartbeats 0
/-! W33: the head: facts by names, the run. -/
namespace K94
open PySem PySem.Spec PyProof.Rows L2
def d_is_whole : He.DefD := ⟨("is_whole", none), "is_whole", "is_whole", defArgs s_is_whole, defBody s_is_whole, defScope s_is_whole, [], []⟩
def d_unit_row : He.DefD := ⟨("unit_row", none), "unit_row", "unit_row", defArgs s_unit_row, defBody s_unit_row, defScope s_unit_row, [], []⟩
def d_unit : He.DefD := ⟨("unit", none), "unit", "unit", defArgs s_unit, defBody s_unit, defScope s_unit, [], []⟩
def d_row_times : He.DefD := ⟨("row_times", none), "row_times", "row_times", defArgs s_row_times, defBody s_row_times, defScope s_row_times, [], []⟩
def d_column_of : He.DefD := ⟨("column_of", none), "column_of", "column_of", defArgs s_column_of, defBody s_column_of, defScope s_column_of, [], []⟩
def d_turned_over : He.DefD := ⟨("turned_over", none), "turned_over", "turned_over", defArgs s_turned_over, defBody s_turned_over, defScope s_turned_over, [], []⟩
def d_lead_of : He.DefD := ⟨("lead_of", none), "lead_of", "lead_of", defArgs s_lead_of, defBody s_lead_of, defScope s_lead_of, [], []⟩
def d_is_place : He.DefD := ⟨("is_place", none), "is_place", "is_place", defArgs s_is_place, defBody s_is_place, defScope s_is_place, [], []⟩
def d_is_deed : He.DefD := ⟨("is_deed", none), "is_deed", "is_deed", defArgs s_is_deed, defBody s_is_deed, defScope s_is_deed, [], []⟩
def d_look_at : He.DefD := ⟨("look_at", none), "look_at", "look_at", defArgs s_look_at, defBody s_look_at, defScope s_look_at, [], []⟩
def d_rows_behind : He.DefD := ⟨("rows_behind", none), "rows_behind", "rows_behind", defArgs s_rows_behind, defBody s_rows_behind, defScope s_rows_behind, [], []⟩
def d_done : He.DefD := ⟨("done", none), "done", "done", defArgs s_done, defBody s_done, defScope s_done, [], []⟩
def d_deeds_table : He.DefD := ⟨("deeds_table", none), "deeds_table", "deeds_table", defArgs s_deeds_table, defBody s_deeds_table, defScope s_deeds_table, [], []⟩
def d_contrary_deed : He.DefD := ⟨("contrary_deed", none), "contrary_deed", "contrary_deed", defArgs s_contrary_deed, defBody s_contrary_deed, defScope s_contrary_deed, [], []⟩
def d_led_back : He.DefD := ⟨("led_back", none), "led_back", "led_back", defArgs s_led_back, defBody s_led_back, defScope s_led_back, [], []⟩
def d_lead_on : He.DefD := ⟨("lead_on", none), "lead_on", "lead_on", defArgs s_lead_on, defBody s_lead_on, defScope s_lead_on, [], []⟩
def d_clear_below : He.DefD := ⟨("clear_below", none), "clear_below", "clear_below", defArgs s_clear_below, defBody s_clear_below, defScope s_clear_below, [], []⟩
def d_clear_above : He.DefD := ⟨("clear_above", none), "clear_above", "clear_above", defArgs s_clear_above, defBody s_clear_above, defScope s_clear_above, [], []⟩
def d_steps_deeds : He.DefD := ⟨("steps_deeds", none), "steps_deeds", "steps_deeds", defArgs s_steps_deeds, defBody s_steps_deeds, defScope s_steps_deeds, [], []⟩
def d_steps_of : He.DefD := ⟨("steps_of", none), "steps_of", "steps_of", defArgs s_steps_of, defBody s_steps_of, defScope s_steps_of, [], []⟩
def d_leads_of : He.DefD := ⟨("leads_of", none), "leads_of", "leads_of", defArgs s_leads_of, defBody s_leads_of, defScope s_leads_of, [], []⟩
def d_rank_of : He.DefD := ⟨("rank_of", none), "rank_of", "rank_of", defArgs s_rank_of, defBody s_rank_of, defScope s_rank_of, [], []⟩
def d_lead_in : He.DefD := ⟨("lead_in", none), "lead_in", "lead_in", defArgs s_lead_in, defBody s_lead_in, defScope s_lead_in, [], []⟩
def d_taken : He.DefD := ⟨("taken", none), "taken", "taken", defArgs s_taken, defBody s_taken, defScope s_taken, [], []⟩
def d_rest_of : He.DefD := ⟨("rest_of", none), "rest_of", "rest_of", defArgs s_rest_of, defBody s_rest_of, defScope s_rest_of, [], []⟩
def d_form_of : He.DefD := ⟨("form_of", none), "form_of", "form_of", defArgs s_form_of, defBody s_form_of, defScope s_form_of, [], []⟩
def d_inside : He.DefD := ⟨("inside", none), "inside", "inside", defArgs s_inside, defBody s_inside, defScope s_inside, [], []⟩
def d_leads_multiplied : He.DefD := ⟨("leads_multiplied", none), "leads_multiplied", "leads_multiplied", defArgs s_leads_multiplied, defBody s_leads_multiplied, defScope s_leads_multiplied, [], []⟩
def d_index_of : He.DefD := ⟨("index_of", none), "index_of", "index_of", defArgs s_index_of, defBody s_index_of, defScope s_index_of, [], []⟩
def d_downs_of : He.DefD := ⟨("downs_of", none), "downs_of", "downs_of", defArgs s_downs_of, defBody s_downs_of, defScope s_downs_of, [], []⟩
def d_rested : He.DefD := ⟨("rested", none), "rested", "rested", defArgs s_rested, defBody s_rested, defScope s_rested, [], []⟩
def d_place_of : He.DefD := ⟨("place_of", none), "place_of", "place_of", defArgs s_place_of, defBody s_place_of, defScope s_place_of, [], []⟩
def d_Leading_init : He.DefD := ⟨("Leading", some "__init__"), "__init__", "Leading.__init__", defArgs s_Leading_init, defBody s_Leading_init, defScope s_Leading_init, [], []⟩
def d_Leading_form_now : He.DefD := ⟨("Leading", some "form_now"), "form_now", "Leading.form_now", defArgs s_Leading_form_now, defBody s_Leading_form_now, defScope s_Leading_form_now, [], []⟩
def d_Leading_swap_rows : He.DefD := ⟨("Leading", some "swap_rows"), "swap_rows", "Leading.swap_rows", defArgs s_Leading_swap_rows, defBody s_Leading_swap_rows, defScope s_Leading_swap_rows, [], []⟩
def d_Leading_swap_columns : He.DefD := ⟨("Leading", some "swap_columns"), "swap_columns", "Leading.swap_columns", defArgs s_Leading_swap_columns, defBody s_Leading_swap_columns, defScope s_Leading_swap_columns, [], []⟩
def d_Leading_add_row : He.DefD := ⟨("Leading", some "add_row"), "add_row", "Leading.add_row", defArgs s_Leading_add_row, defBody s_Leading_add_row, defScope s_Leading_add_row, [], []⟩
def d_Leading_add_column : He.DefD := ⟨("Leading", some "add_column"), "add_column", "Leading.add_column", defArgs s_Leading_add_column, defBody s_Leading_add_column, defScope s_Leading_add_column, [], []⟩
def d_Leading_turn_up : He.DefD := ⟨("Leading", some "turn_up"), "turn_up", "Leading.turn_up", defArgs s_Leading_turn_up, defBody s_Leading_turn_up, defScope s_Leading_turn_up, [], []⟩
def d_Leading_least_at : He.DefD := ⟨("Leading", some "least_at"), "least_at", "Leading.least_at", defArgs s_Leading_least_at, defBody s_Leading_least_at, defScope s_Leading_least_at, [], []⟩
def d_Leading_clear_at : He.DefD := ⟨("Leading", some "clear_at"), "clear_at", "Leading.clear_at", defArgs s_Leading_clear_at, defBody s_Leading_clear_at, defScope s_Leading_clear_at, [], []⟩
def d_Leading_undivided : He.DefD := ⟨("Leading", some "undivided"), "undivided", "Leading.undivided", defArgs s_Leading_undivided, defBody s_Leading_undivided, defScope s_Leading_undivided, [], []⟩
def d_Leading_settle : He.DefD := ⟨("Leading", some "settle"), "settle", "Leading.settle", defArgs s_Leading_settle, defBody s_Leading_settle, defScope s_Leading_settle, [], []⟩
def d_led_to_rounds : He.DefD := ⟨("led_to_rounds", none), "led_to_rounds", "led_to_rounds", defArgs s_led_to_rounds, defBody s_led_to_rounds, defScope s_led_to_rounds, [], []⟩
def d_rounds_of : He.DefD := ⟨("rounds_of", none), "rounds_of", "rounds_of", defArgs s_rounds_of, defBody s_rounds_of, defScope s_rounds_of, [], []⟩
def d_rounds_paper : He.DefD := ⟨("rounds_paper", none), "rounds_paper", "rounds_paper", defArgs s_rounds_paper, defBody s_rounds_paper, defScope s_rounds_paper, [], []⟩
def d_left_by : He.DefD := ⟨("left_by", none), "left_by", "left_by", defArgs s_left_by, defBody s_left_by, defScope s_left_by, [], []⟩
def d_classes_of : He.DefD := ⟨("classes_of", none), "classes_of", "classes_of", defArgs s_classes_of, defBody s_classes_of, defScope s_classes_of, [], []⟩
def d_shared_part : He.DefD := ⟨("shared_part", none), "shared_part", "shared_part", defArgs s_shared_part, defBody s_shared_part, defScope s_shared_part, [], []⟩
def d_order_of : He.DefD := ⟨("order_of", none), "order_of", "order_of", defArgs s_order_of, defBody s_order_of, defScope s_order_of, [], []⟩
def d_killed_by : He.DefD := ⟨("killed_by", none), "killed_by", "killed_by", defArgs s_killed_by, defBody s_killed_by, defScope s_killed_by, [], []⟩
def d_Lfeed : He.DefD := ⟨("_law_feed", none), "_law_feed", "_law_feed", defArgs s_Lfeed, defBody s_Lfeed, defScope s_Lfeed, [], []⟩
def d_Ldraw : He.DefD := ⟨("_law_draw", none), "_law_draw", "_law_draw", defArgs s_Ldraw, defBody s_Ldraw, defScope s_Ldraw, [], []⟩
def d_Ladded : He.DefD := ⟨("_law_added", none), "_law_added", "_law_added", defArgs s_Ladded, defBody s_Ladded, defScope s_Ladded, [], []⟩
def d_Llead : He.DefD := ⟨("_law_lead", none), "_law_lead", "_law_lead", defArgs s_Llead, defBody s_Llead, defScope s_Llead, [], []⟩
def d_Lsteps : He.DefD := ⟨("_law_steps", none), "_law_steps", "_law_steps", defArgs s_Lsteps, defBody s_Lsteps, defScope s_Lsteps, [], []⟩
def d_Lrest : He.DefD := ⟨("_law_rest", none), "_law_rest", "_law_rest", defArgs s_Lrest, defBody s_Lrest, defScope s_Lrest, [], []⟩
def d_Lfirst : He.DefD := ⟨("_law_first", none), "_law_first", "_law_first", defArgs s_Lfirst, defBody s_Lfirst, defScope s_Lfirst, [], []⟩
def d_Lsums : He.DefD := ⟨("_law_sums", none), "_law_sums", "_law_sums", defArgs s_Lsums, defBody s_Lsums, defScope s_Lsums, [], []⟩
def d_Lis_in : He.DefD := ⟨("_law_is_in", none), "_law_is_in", "_law_is_in", defArgs s_Lis_in, defBody s_Lis_in, defScope s_Lis_in, [], []⟩
def d_Lgone : He.DefD := ⟨("_law_gone", none), "_law_gone", "_law_gone", defArgs s_Lgone, defBody s_Lgone, defScope s_Lgone, [], []⟩
def d_Lorder : He.DefD := ⟨("_law_order", none), "_law_order", "_law_order", defArgs s_Lorder, defBody s_Lorder, defScope s_Lorder, [], []⟩
def d_Lleft_right : He.DefD := ⟨("_law_left_right", none), "_law_left_right", "_law_left_right", defArgs s_Lleft_right, defBody s_Lleft_right, defScope s_Lleft_right, [], []⟩
def d_Lindex : He.DefD := ⟨("_law_index", none), "_law_index", "_law_index", defArgs s_Lindex, defBody s_Lindex, defScope s_Lindex, [], []⟩
def d_Linside_right : He.DefD := ⟨("_law_inside_right", none), "_law_inside_right", "_law_inside_right", defArgs s_Linside_right, defBody s_Linside_right, defScope s_Linside_right, [], []⟩
def d_law : He.DefD := ⟨("law", none), "law", "law", defArgs s_law, defBody s_law, defScope s_law, [], []⟩
def fn0 : List He.DefD := [d_is_whole, d_unit_row, d_unit, d_row_times, d_column_of, d_turned_over, d_lead_of, d_is_place, d_is_deed, d_look_at, d_rows_behind, d_done, d_deeds_table, d_contrary_deed, d_led_back, d_lead_on, d_clear_below, d_clear_above, d_steps_deeds, d_steps_of, d_leads_of, d_rank_of, d_lead_in, d_taken, d_rest_of, d_form_of, d_inside, d_leads_multiplied, d_index_of, d_downs_of]
def fn1 : List He.DefD := [d_rested, d_place_of, d_Leading_init, d_Leading_form_now, d_Leading_swap_rows, d_Leading_swap_columns, d_Leading_add_row, d_Leading_add_column, d_Leading_turn_up, d_Leading_least_at, d_Leading_clear_at, d_Leading_undivided, d_Leading_settle, d_led_to_rounds, d_rounds_of, d_rounds_paper, d_left_by, d_classes_of, d_shared_part, d_order_of, d_killed_by, d_Lfeed, d_Ldraw, d_Ladded, d_Llead, d_Lsteps, d_Lrest, d_Lfirst, d_Lsums, d_Lis_in]
def fn2 : List He.DefD := [d_Lgone, d_Lorder, d_Lleft_right, d_Lindex, d_Linside_right, d_law]
def fn : List He.DefD := fn0 ++ fn1 ++ fn2
def loose0 : List PySem.Str := ["FormError", "NoDeed", "is_whole", "unit_row", "unit", "row_times", "column_of", "turned_over", "lead_of", "LENGTHS", "is_place", "is_deed", "look_at", "rows_behind", "done", "deeds_table", "contrary_deed", "led_back", "lead_on", "clear_below", "clear_above", "steps_deeds", "steps_of", "leads_of", "rank_of", "lead_in", "taken", "rest_of", "form_of", "inside"]
def loose1 : List PySem.Str := ["leads_multiplied", "index_of", "downs_of", "rested", "place_of", "Leading", "led_to_rounds", "rounds_of", "rounds_paper", "left_by", "classes_of", "shared_part", "order_of", "killed_by", "_law_feed", "_law_draw", "_law_added", "_law_lead", "_law_steps", "_law_rest", "_law_first", "_law_sums", "_law_is_in", "_law_gone", "_law_order", "_law_left_right", "_law_index", "_law_inside_right"]
def loose : List PySem.Str := loose0 ++ loose1
def fa0 : List He.Fa := [.glo "is_whole", .glo "unit_row", .glo "unit", .glo "row_times", .glo "column_of", .glo "turned_over", .glo "lead_of", .glo "LENGTHS", .glo "is_place", .glo "is_deed", .glo "look_at", .glo "rows_behind", .glo "done", .glo "deeds_table", .glo "contrary_deed", .glo "led_back", .glo "lead_on", .glo "clear_below", .glo "clear_above", .glo "steps_deeds", .glo "steps_of", .glo "leads_of", .glo "rank_of", .glo "lead_in", .glo "taken", .glo "rest_of", .glo "form_of", .glo "inside", .glo "leads_multiplied", .glo "index_of"]
def fa1 : List He.Fa := [.glo "downs_of", .glo "rested", .glo "place_of", .glo "Leading", .glo "led_to_rounds", .glo "rounds_of", .glo "rounds_paper", .glo "left_by", .glo "classes_of", .glo "shared_part", .glo "order_of", .glo "killed_by", .glo "_law_feed", .glo "_law_draw", .glo "_law_added", .glo "_law_lead", .glo "_law_steps", .glo "_law_rest", .glo "_law_first", .glo "_law_sums", .glo "_law_is_in", .glo "_law_gone", .glo "_law_order", .glo "_law_left_right", .glo "_law_index", .glo "_law_inside_right", .glo "law", .free "len", .free "tuple", .free "range"]
def fa2 : List He.Fa := [.free "int", .free "list", .free "isinstance", .free "bool", .free "str", .free "min", .free "abs", .free "all", .free "any", .free "zip", .free "enumerate", .free "sorted", .free "repr", .cls "Leading", .mkr "Leading", .noat "Leading" "own_wide", .noat "Leading" "own_rows", .noat "Leading" "row_deeds", .noat "Leading" "column_deeds", .meth "Leading" "form_now", .meth "Leading" "swap_rows", .meth "Leading" "swap_columns", .meth "Leading" "add_row", .meth "Leading" "add_column", .meth "Leading" "turn_up", .meth "Leading" "least_at", .meth "Leading" "clear_at", .meth "Leading" "undivided", .meth "Leading" "settle"]
def fa : List He.Fa := fa0 ++ fa1 ++ fa2
def ts : List He.Tab := [(fun K => He.ga K "LENGTHS", ["swap", "turn", "add"])]
def tf : List He.Defn := [("clear_below", none), ("_law_steps", none)]
def ex (K : PySem.W.Frag) : Bool := He.valsB K (He.ga K "LENGTHS") [("swap", .int 3), ("turn", .int 2), ("add", .int 4)] && decide ((He.cT K ("clear_below", none)).2 ≠ (He.cT K ("_law_steps", none)).2)
abbrev R : PySem.W.OpenRow := PySem.W.OpenLaw.row PySem.Challenge.rw_stepforms_k94_whole_indexes_multiply
abbrev hk : PySem.W.Hook := He.hookX 6 fa fn ts tf ex
def ob (s : PySem.W.SharedT) : He.AlX := He.obsX 6 fa fn ts tf ex (HandSHeadRun.getT s)
theorem ob_eq (s : PySem.W.SharedT) : ob s = hk.obs s.abs := He.obsX_eq (HandSHeadRun.getT_eq s)

theorem runf (w : World) : HandSHeadRun.RunEq R (PySem.W.view R.prog [71]) hk ob 4000 loose (w.withFollow "special-get-raises" false) := by
  intro os
  kernel_rfl
theorem runt (w : World) : HandSHeadRun.RunEq R (PySem.W.view R.prog [71]) hk ob 4000 loose (w.withFollow "special-get-raises" true) := by
  intro os
  kernel_rfl
theorem run (w : World) : HandSHeadRun.RunEq R (PySem.W.view R.prog [71]) hk ob 4000 loose w :=
  PySem.W.byRow2 "special-get-raises" (P := fun w => HandSHeadRun.RunEq R (PySem.W.view R.prog [71]) hk ob 4000 loose w) runf runt w
end K94

set_option Elab.async false
set_option linter.all false
set_option maxRecDepth 100000
set_option maxHeartbeats 4000000
/-! W34: the walks joined. -/
namespace K94
open PySem PySem.Spec PyProof.Rows L2
def tabA (K : PySem.W.Frag) : List (Addr × Addr) := [He.cT K ("clear_below", none), He.cT K ("_law_steps", none)]
def tabT (K : PySem.W.Frag) : TabL := [((He.cT K ("clear_below", none)).2, lamQ "clear_below" s_clear_below), ((He.cT K ("_law_steps", none)).2, lamQ "_law_steps" s_Lsteps)]
section
variable {K : PySem.W.Frag} {w : World} {h : Heap} {mg : Str → Option Value} {base : Heap}
theorem vals_of (h : ex K = true) : He.valsB K (He.ga K "LENGTHS") [("swap", .int 3), ("turn", .int 2), ("add", .int 4)] = true := (He.ba h).1
theorem ne_of_ex (h : ex K = true) : (He.cT K ("clear_below", none)).2 ≠ (He.cT K ("_law_steps", none)).2 := of_decide_eq_true (He.ba h).2
theorem tabT_u1 (n : (He.cT K ("clear_below", none)).2 ≠ (He.cT K ("_law_steps", none)).2) : ∀ q ∈ tabT K, q.1 = (He.cT K ("clear_below", none)).2 → q.2 = lamQ "clear_below" s_clear_below := fun q hq e => by
  rcases List.mem_cons.mp hq with rfl | hq
  · rfl
  · rcases List.mem_cons.mp hq with rfl | hq
    · exact absurd e.symm n
    · cases hq
theorem tabT_u2 (n : (He.cT K ("clear_below", none)).2 ≠ (He.cT K ("_law_steps", none)).2) : ∀ q ∈ tabT K, q.1 = (He.cT K ("_law_steps", none)).2 → q.2 = lamQ "_law_steps" s_Lsteps := fun q hq e => by
  rcases List.mem_cons.mp hq with rfl | hq
  · exact absurd e n
  · rcases List.mem_cons.mp hq with rfl | hq
    · rfl
    · cases hq
theorem lenD_of (X : K.In h) (G : h.Ns mainGlobals mg) (c : (He.Fa.glo "LENGTHS").ok K = true) (d : ∃ es n, KDict K w (He.ga K "LENGTHS") es n) (v : He.valsB K (He.ga K "LENGTHS") [("swap", .int 3), ("turn", .int 2), ("add", .int 4)] = true) : LenD K w mg (He.ga K "LENGTHS") := by
  obtain ⟨es, n, D⟩ := d
  have key : ∀ {x : Str} {v0 : He.Dv}, (x, v0) ∈ [(("swap" : Str), He.Dv.int 3), ("turn", .int 2), ("add", .int 4)] → KDct K w (He.ga K "LENGTHS") x (v0.v K) := fun {x v0} hm => by
    obtain ⟨u, h1, h2⟩ := He.valsB_ok v hm
    exact ⟨es, n, u, D.at_, D.lit, h1, h2⟩
  exact ⟨He.glo_ok X G c, D.low, key List.mem_cons_self, key (List.mem_cons_of_mem _ List.mem_cons_self), key (List.mem_cons_of_mem _ (List.mem_cons_of_mem _ List.mem_cons_self))⟩
theorem defC_of {x : Str} {st : Stmt} {fd : FuncData} (F : FunD K x x (defArgs st) (defBody st) (defScope st) [] [] (He.fAd K (x, none)) fd) (hm : mg x = some (.ref (He.fAd K (x, none)))) (tb : LamX.TabB base mg (He.cT K (x, none)).1 (He.cT K (x, none)).2) :
    DefC K mg base x st (He.cT K (x, none)).1 (He.cT K (x, none)).2 := by
  refine ⟨⟨_, fd, F, hm, ?_⟩, tb⟩
  obtain ⟨oc, od, dV, kV, doc, pm, an, cdv, ct, osl, rfl, lk, hcd, _, _⟩ := F.ex
  obtain ⟨c', rfl⟩ := He.codeIn_ref hcd
  have := He.codeOf_eq lk (c := c') rfl
  show Value.ref c' = Value.ref (He.codeOf K (x, none))
  rw [this]
end
theorem joined {P : Program} {w : World} {K : PySem.W.Frag} {mg : Str → Option Value} {base : Heap} {T : TabL} {f L C cd1 Pt1 cd2 Pt2 : Addr} {fd : FuncData} (B : Bi mg) (LD : LenD K w mg L) (G : Ldg K C)
    (DC1 : DefC K mg base "clear_below" s_clear_below cd1 Pt1) (m1 : (Pt1, lamQ "clear_below" s_clear_below) ∈ T) (u1 : ∀ q ∈ T, q.1 = Pt1 → q.2 = lamQ "clear_below" s_clear_below)
    (DC2 : DefC K mg base "_law_steps" s_Lsteps cd2 Pt2) (m2 : (Pt2, lamQ "_law_steps" s_Lsteps) ∈ T) (u2 : ∀ q ∈ T, q.1 = Pt2 → q.2 = lamQ "_law_steps" s_Lsteps)
    (F_Lfeed : Def K mg "_law_feed" s_Lfeed)
    (F_Ldraw : Def K mg "_law_draw" s_Ldraw)
    (F_Lfirst : Def K mg "_law_first" s_Lfirst)
    (F_Ladded : Def K mg "_law_added" s_Ladded)
    (F_Lsums : Def K mg "_law_sums" s_Lsums)
    (F_Llead : Def K mg "_law_lead" s_Llead)
    (F_Lrest : Def K mg "_law_rest" s_Lrest)
    (F_Lis_in : Def K mg "_law_is_in" s_Lis_in)
    (F_Lindex : Def K mg "_law_index" s_Lindex)
    (F_lead_on : Def K mg "lead_on" s_lead_on)
    (F_clear_above : Def K mg "clear_above" s_clear_above)
    (F_steps_deeds : Def K mg "steps_deeds" s_steps_deeds)
    (F_is_whole : Def K mg "is_whole" s_is_whole)
    (F_is_place : Def K mg "is_place" s_is_place)
    (F_is_deed : Def K mg "is_deed" s_is_deed)
    (F_look_at : Def K mg "look_at" s_look_at)
    (F_rows_behind : Def K mg "rows_behind" s_rows_behind)
    (F_done : Def K mg "done" s_done)
    (F_steps_of : Def K mg "steps_of" s_steps_of)
    (F_lead_of : Def K mg "lead_of" s_lead_of)
    (F_leads_of : Def K mg "leads_of" s_leads_of)
    (F_rank_of : Def K mg "rank_of" s_rank_of)
    (F_form_of : Def K mg "form_of" s_form_of)
    (F_lead_in : Def K mg "lead_in" s_lead_in)
    (F_taken : Def K mg "taken" s_taken)
    (F_inside : Def K mg "inside" s_inside)
    (F_leads_multiplied : Def K mg "leads_multiplied" s_leads_multiplied)
    (F_index_of : Def K mg "index_of" s_index_of)
    (F_Linside_right : Def K mg "_law_inside_right" s_Linside_right)
    (F_downs_of : Def K mg "downs_of" s_downs_of)
    (F_Leading_form_now : Mtd K C "form_now" "Leading.form_now" s_Leading_form_now)
    (F_Leading_init : Mkd K mg C "Leading" "Leading.__init__" s_Leading_init)
    (F_Leading_least_at : Mtd K C "least_at" "Leading.least_at" s_Leading_least_at)
    (F_Leading_swap_rows : Mtd K C "swap_rows" "Leading.swap_rows" s_Leading_swap_rows)
    (F_Leading_swap_columns : Mtd K C "swap_columns" "Leading.swap_columns" s_Leading_swap_columns)
    (F_Leading_add_row : Mtd K C "add_row" "Leading.add_row" s_Leading_add_row)
    (F_Leading_add_column : Mtd K C "add_column" "Leading.add_column" s_Leading_add_column)
    (F_Leading_clear_at : Mtd K C "clear_at" "Leading.clear_at" s_Leading_clear_at)
    (F_Leading_undivided : Mtd K C "undivided" "Leading.undivided" s_Leading_undivided)
    (F_Leading_turn_up : Mtd K C "turn_up" "Leading.turn_up" s_Leading_turn_up)
    (F_Leading_settle : Mtd K C "settle" "Leading.settle" s_Leading_settle)
    (F_led_to_rounds : Def K mg "led_to_rounds" s_led_to_rounds)
    (F_rounds_of : Def K mg "rounds_of" s_rounds_of)
    (F_left_by : Def K mg "left_by" s_left_by)
    (F_classes_of : Def K mg "classes_of" s_classes_of)
    (F_unit_row : Def K mg "unit_row" s_unit_row)
    (F_unit : Def K mg "unit" s_unit)
    (F_deeds_table : Def K mg "deeds_table" s_deeds_table)
    (F_contrary_deed : Def K mg "contrary_deed" s_contrary_deed)
    (F_led_back : Def K mg "led_back" s_led_back)
    (F_column_of : Def K mg "column_of" s_column_of)
    (F_turned_over : Def K mg "turned_over" s_turned_over)
    (F_rounds_paper : Def K mg "rounds_paper" s_rounds_paper)
    (F_rested : Def K mg "rested" s_rested)
    (F_row_times : Def K mg "row_times" s_row_times)
    (F_place_of : Def K mg "place_of" s_place_of)
    (F_shared_part : Def K mg "shared_part" s_shared_part)
    (F_order_of : Def K mg "order_of" s_order_of)
    (F_Lorder : Def K mg "_law_order" s_Lorder)
    (F_rest_of : Def K mg "rest_of" s_rest_of)
    (F_Lgone : Def K mg "_law_gone" s_Lgone)
    (F_killed_by : Def K mg "killed_by" s_killed_by)
    (F_Lleft_right : Def K mg "_law_left_right" s_Lleft_right)
    (FL : FunD K "law" "law" (defArgs s_law) (defBody s_law) (defScope s_law) [] [] f fd) : FnOk P w K mg base CX0 13 f fd ["_law_script"] (spLaw T K) := by
  have k_Lfeed : C8.Cal P w K mg base 1 "_law_feed" (spLfeed T K) [] := ok_Lfeed F_Lfeed B 
  have k_Ldraw : C8.Cal P w K mg base 1 "_law_draw" (spLdraw T K) [] := ok_Ldraw F_Ldraw B 
  have k_Lfirst : C8.Cal P w K mg base 2 "_law_first" (spLfirst T K) [] := ok_Lfirst F_Lfirst B k_Ldraw
  have k_Ladded : C8.Cal P w K mg base 1 "_law_added" (spAdded T K) [] := ok_Ladded F_Ladded B 
  have k_Lsums : C8.Cal P w K mg base 2 "_law_sums" (spLsums T K) [] := ok_Lsums F_Lsums B k_Ldraw k_Ladded
  have k_Llead : C8.Cal P w K mg base 1 "_law_lead" (spLead K) [] := ok_Llead F_Llead B 
  have k_Lrest : C8.Cal P w K mg base 2 "_law_rest" (spLrest T K) [] := ok_Lrest F_Lrest B k_Llead k_Ladded
  have k_Lsteps : C8.Cal P w K mg base 3 "_law_steps" (spLsteps T K) [] := ok_Lsteps (DC := DC2) (hmT := m2) (hu := u2) (B := B) (c_Llead := k_Llead) (c_Ladded := k_Ladded)
  have k_Lis_in : C8.Cal P w K mg base 4 "_law_is_in" (spLisin T K) [] := ok_Lis_in F_Lis_in B k_Llead k_Lrest k_Lsteps
  have k_Lindex : C8.Cal P w K mg base 2 "_law_index" (spLindex T K) [] := ok_Lindex F_Lindex B k_Llead
  have k_lead_on : C8.Cal P w K mg base 1 "lead_on" (spLeadOn T K) [] := ok_lead_on F_lead_on B 
  have k_clear_below : C8.Cal P w K mg base 3 "clear_below" (spBelow T K) [] := ok_clear_below (DC := DC1) (hmT := m1) (hu := u1) (B := B) (c_lead_on := k_lead_on)
  have k_clear_above : C8.Cal P w K mg base 2 "clear_above" (spAbove T K) [] := ok_clear_above F_clear_above B k_lead_on
  have k_steps_deeds : C8.Cal P w K mg base 4 "steps_deeds" (spSteps T K) [] := ok_steps_deeds F_steps_deeds B k_clear_below k_clear_above
  have k_is_whole : C8.Cal P w K mg base 1 "is_whole" (spWhole) [] := ok_is_whole F_is_whole B 
  have k_is_place : C8.Cal P w K mg base 2 "is_place" (spPlace) [] := ok_is_place F_is_place B k_is_whole
  have k_is_deed : C8.Cal P w K mg base 3 "is_deed" (spDeed K) [] := ok_is_deed F_is_deed B LD k_is_whole k_is_place
  have k_look_at : C8.Cal P w K mg base 4 "look_at" (spLook T K) [] := ok_look_at F_look_at B k_is_deed
  have k_rows_behind : C8.Cal P w K mg base 1 "rows_behind" (spBehind T K) [] := ok_rows_behind F_rows_behind B 
  have k_done : C8.Cal P w K mg base 5 "done" (spDone T K) [] := ok_done F_done B k_look_at k_rows_behind
  have k_steps_of : C8.Cal P w K mg base 6 "steps_of" (spStepsOf T K) [] := ok_steps_of F_steps_of B k_steps_deeds k_done
  have k_lead_of : C8.Cal P w K mg base 1 "lead_of" (spLeadO T K) [] := ok_lead_of F_lead_of B 
  have k_leads_of : C8.Cal P w K mg base 7 "leads_of" (spLeadsOf T K) [] := ok_leads_of F_leads_of B k_steps_of k_lead_of
  have k_rank_of : C8.Cal P w K mg base 8 "rank_of" (spRank T K) [] := ok_rank_of F_rank_of B k_leads_of
  have k_form_of : C8.Cal P w K mg base 9 "form_of" (spFormOf T K) [] := ok_form_of F_form_of B k_steps_of k_rank_of
  have k_lead_in : C8.Cal P w K mg base 1 "lead_in" (spLeadO T K) [] := ok_lead_in F_lead_in B 
  have k_taken : C8.Cal P w K mg base 2 "taken" (spTaken T K) [] := ok_taken F_taken B k_lead_in
  have k_inside : C8.Cal P w K mg base 10 "inside" (spInside T K) [] := ok_inside F_inside B k_form_of k_taken k_lead_in
  have k_leads_multiplied : C8.Cal P w K mg base 2 "leads_multiplied" (spMult T K) [] := ok_leads_multiplied F_leads_multiplied B k_lead_in
  have k_index_of : C8.Cal P w K mg base 11 "index_of" (spIndex T K) [] := ok_index_of F_index_of B k_inside k_form_of k_leads_multiplied
  have k_Linside_right : C8.Cal P w K mg base 12 "_law_inside_right" (spLinside T K) [] := ok_Linside_right F_Linside_right B k_Lis_in k_Lindex k_Lsteps k_inside k_index_of
  have k_downs_of : C8.Cal P w K mg base 1 "downs_of" (spDowns T K) [] := ok_downs_of F_downs_of B 
  have k_Leading_form_now : C8.Met P w K mg base 1 C "form_now" (spFormNow T K C) [] := ok_Leading_form_now F_Leading_form_now B G
  have k_Leading_init : C8.Mak P w K mg base 1 "Leading" C (spInit T K C) [] := ok_Leading_init F_Leading_init B G
  have k_Leading_least_at : C8.Met P w K mg base 1 C "least_at" (spLeastAt T K C) [] := ok_Leading_least_at F_Leading_least_at B G
  have k_Leading_swap_rows : C8.Met P w K mg base 1 C "swap_rows" (spSwapR T K C) [] := ok_Leading_swap_rows F_Leading_swap_rows B G
  have k_Leading_swap_columns : C8.Met P w K mg base 1 C "swap_columns" (spSwapC T K C) [] := ok_Leading_swap_columns F_Leading_swap_columns B G
  have k_Leading_add_row : C8.Met P w K mg base 1 C "add_row" (spAddR T K C) [] := ok_Leading_add_row F_Leading_add_row B G
  have k_Leading_add_column : C8.Met P w K mg base 1 C "add_column" (spAddC T K C) [] := ok_Leading_add_column F_Leading_add_column B G
  have k_Leading_clear_at : C8.Met P w K mg base 2 C "clear_at" (spClear T K C) [] := ok_Leading_clear_at F_Leading_clear_at B G k_Leading_add_row k_Leading_add_column
  have k_Leading_undivided : C8.Met P w K mg base 1 C "undivided" (spUndiv T K C) [] := ok_Leading_undivided F_Leading_undivided B G
  have k_Leading_turn_up : C8.Met P w K mg base 1 C "turn_up" (spTurnUp T K C) [] := ok_Leading_turn_up F_Leading_turn_up B G
  have k_Leading_settle : C8.Met P w K mg base 3 C "settle" (spSettle T K C) [] := ok_Leading_settle F_Leading_settle B G k_Leading_least_at k_Leading_swap_rows k_Leading_swap_columns k_Leading_clear_at k_Leading_undivided k_Leading_add_row k_Leading_turn_up
  have k_led_to_rounds : C8.Cal P w K mg base 4 "led_to_rounds" (spLed T K C) [] := ok_led_to_rounds F_led_to_rounds B G k_Leading_init k_Leading_settle
  have k_rounds_of : C8.Cal P w K mg base 5 "rounds_of" (spRounds T K) [] := ok_rounds_of F_rounds_of B G k_Leading_form_now k_led_to_rounds
  have k_left_by : C8.Cal P w K mg base 6 "left_by" (spLeft T K) [] := ok_left_by F_left_by B k_downs_of k_rounds_of
  have k_classes_of : C8.Cal P w K mg base 7 "classes_of" (spClasses T K) [] := ok_classes_of F_classes_of B k_left_by
  have k_unit_row : C8.Cal P w K mg base 1 "unit_row" (spUnitRow T K) [] := ok_unit_row F_unit_row B 
  have k_unit : C8.Cal P w K mg base 2 "unit" (spUnit T K) [] := ok_unit F_unit B k_unit_row
  have k_deeds_table : C8.Cal P w K mg base 6 "deeds_table" (spDeeds T K) [] := ok_deeds_table F_deeds_table B k_done k_unit
  have k_contrary_deed : C8.Cal P w K mg base 1 "contrary_deed" (spContrary T K) [] := ok_contrary_deed F_contrary_deed B 
  have k_led_back : C8.Cal P w K mg base 2 "led_back" (spBack T K) [] := ok_led_back F_led_back B k_contrary_deed
  have k_column_of : C8.Cal P w K mg base 1 "column_of" (spColumn T K) [] := ok_column_of F_column_of B 
  have k_turned_over : C8.Cal P w K mg base 2 "turned_over" (spOver T K) [] := ok_turned_over F_turned_over B k_column_of
  have k_rounds_paper : C8.Cal P w K mg base 7 "rounds_paper" (spPaper T K) [] := ok_rounds_paper F_rounds_paper B G k_Leading_form_now k_led_to_rounds k_deeds_table k_led_back k_turned_over
  have k_rested : C8.Cal P w K mg base 2 "rested" (spRested T K) [] := ok_rested F_rested B k_downs_of
  have k_row_times : C8.Cal P w K mg base 1 "row_times" (spTimes T K) [] := ok_row_times F_row_times B 
  have k_place_of : C8.Cal P w K mg base 3 "place_of" (spPlaceOf T K) [] := ok_place_of F_place_of B k_rested k_row_times
  have k_shared_part : C8.Cal P w K mg base 1 "shared_part" (spShared T K) [] := ok_shared_part F_shared_part B 
  have k_order_of : C8.Cal P w K mg base 8 "order_of" (spOrder T K) [] := ok_order_of F_order_of B k_downs_of k_rounds_paper k_place_of k_shared_part
  have k_Lorder : C8.Cal P w K mg base 5 "_law_order" (spLorder T K) [] := ok_Lorder F_Lorder B k_Lis_in k_Ladded
  have k_rest_of : C8.Cal P w K mg base 7 "rest_of" (spRestOf T K) [] := ok_rest_of F_rest_of B k_steps_of k_taken
  have k_Lgone : C8.Cal P w K mg base 8 "_law_gone" (spLgone T K) [] := ok_Lgone F_Lgone B k_rest_of
  have k_killed_by : C8.Cal P w K mg base 6 "killed_by" (spKilled T K) [] := ok_killed_by F_killed_by B k_downs_of k_rounds_of k_shared_part
  have k_Lleft_right : C8.Cal P w K mg base 9 "_law_left_right" (spLleft T K) [] := ok_Lleft_right F_Lleft_right B k_left_by k_classes_of k_Ldraw k_order_of k_Lorder k_Lgone k_Lsteps k_Lrest k_Lis_in k_Ladded k_killed_by
  exact fn_law FL B k_Lfeed k_Ldraw k_Lfirst k_Lsums k_Linside_right k_index_of k_Lleft_right

theorem facts {P : Program} {w : World} {K : PySem.W.Frag} {h : Heap} {mg : Str → Option Value} {fl : Addr} (X : K.In h) (G : h.Ns mainGlobals mg) (hfa : mg ("law" : Str) = some (.ref fl)) (c : He.SaysX fa fn ts tf ex w h K) :
    ∃ fd : FuncData, (∀ (s : Shared) (v : Value), BindsTo s fd ⟨[v], []⟩ [("_law_script", v)]) ∧ ∀ base : Heap, K.In base → base.Ns mainGlobals mg → (∀ p ∈ tabA K, LamX.TabB base mg p.1 p.2) → FnOk P w K mg base CX0 13 fl fd ["_law_script"] (spLaw (tabT K) K) := by
  have cd := c.t.d
  have B : Bi mg := ⟨He.free_ok X G (cd.fact 57 (f := .free "len") rfl), He.free_ok X G (cd.fact 58 (f := .free "tuple") rfl), He.free_ok X G (cd.fact 59 (f := .free "range") rfl), He.free_ok X G (cd.fact 60 (f := .free "int") rfl), He.free_ok X G (cd.fact 61 (f := .free "list") rfl), He.free_ok X G (cd.fact 62 (f := .free "isinstance") rfl), He.free_ok X G (cd.fact 63 (f := .free "bool") rfl), He.free_ok X G (cd.fact 64 (f := .free "str") rfl), He.free_ok X G (cd.fact 65 (f := .free "min") rfl), He.free_ok X G (cd.fact 66 (f := .free "abs") rfl), He.free_ok X G (cd.fact 67 (f := .free "all") rfl), He.free_ok X G (cd.fact 68 (f := .free "any") rfl), He.free_ok X G (cd.fact 69 (f := .free "zip") rfl), He.free_ok X G (cd.fact 70 (f := .free "enumerate") rfl), He.free_ok X G (cd.fact 71 (f := .free "sorted") rfl), He.free_ok X G (cd.fact 72 (f := .free "repr") rfl)⟩
  have LD : LenD K w mg (He.ga K "LENGTHS") := lenD_of X G (cd.fact 7 (f := .glo "LENGTHS") rfl) (c.t.tab 0 (t := (fun K => He.ga K "LENGTHS", ["swap", "turn", "add"])) rfl) (vals_of c.more)
  have GL : Ldg K (He.ga K "Leading") := ⟨He.cls_ok (cd.fact 73 (f := .cls "Leading") rfl), He.noat_ok (cd.fact 75 (f := .noat "Leading" "own_wide") rfl), He.noat_ok (cd.fact 76 (f := .noat "Leading" "own_rows") rfl), He.noat_ok (cd.fact 77 (f := .noat "Leading" "row_deeds") rfl), He.noat_ok (cd.fact 78 (f := .noat "Leading" "column_deeds") rfl)⟩
  have hne := ne_of_ex c.more
  have F_Lfeed : Def K mg "_law_feed" s_Lfeed := by
    obtain ⟨fd, F⟩ := cd.def_ 51 (d := d_Lfeed) rfl
    exact ⟨_, fd, F, He.glo_ok X G (cd.fact 42 (f := .glo "_law_feed") rfl)⟩
  have F_Ldraw : Def K mg "_law_draw" s_Ldraw := by
    obtain ⟨fd, F⟩ := cd.def_ 52 (d := d_Ldraw) rfl
    exact ⟨_, fd, F, He.glo_ok X G (cd.fact 43 (f := .glo "_law_draw") rfl)⟩
  have F_Lfirst : Def K mg "_law_first" s_Lfirst := by
    obtain ⟨fd, F⟩ := cd.def_ 57 (d := d_Lfirst) rfl
    exact ⟨_, fd, F, He.glo_ok X G (cd.fact 48 (f := .glo "_law_first") rfl)⟩
  have F_Ladded : Def K mg "_law_added" s_Ladded := by
    obtain ⟨fd, F⟩ := cd.def_ 53 (d := d_Ladded) rfl
    exact ⟨_, fd, F, He.glo_ok X G (cd.fact 44 (f := .glo "_law_added") rfl)⟩
  have F_Lsums : Def K mg "_law_sums" s_Lsums := by
    obtain ⟨fd, F⟩ := cd.def_ 58 (d := d_Lsums) rfl
    exact ⟨_, fd, F, He.glo_ok X G (cd.fact 49 (f := .glo "_law_sums") rfl)⟩
  have F_Llead : Def K mg "_law_lead" s_Llead := by
    obtain ⟨fd, F⟩ := cd.def_ 54 (d := d_Llead) rfl
    exact ⟨_, fd, F, He.glo_ok X G (cd.fact 45 (f := .glo "_law_lead") rfl)⟩
  have F_Lrest : Def K mg "_law_rest" s_Lrest := by
    obtain ⟨fd, F⟩ := cd.def_ 56 (d := d_Lrest) rfl
    exact ⟨_, fd, F, He.glo_ok X G (cd.fact 47 (f := .glo "_law_rest") rfl)⟩
  obtain ⟨fd_Lsteps, E_Lsteps⟩ := cd.def_ 55 (d := d_Lsteps) rfl
  have F_Lis_in : Def K mg "_law_is_in" s_Lis_in := by
    obtain ⟨fd, F⟩ := cd.def_ 59 (d := d_Lis_in) rfl
    exact ⟨_, fd, F, He.glo_ok X G (cd.fact 50 (f := .glo "_law_is_in") rfl)⟩
  have F_Lindex : Def K mg "_law_index" s_Lindex := by
    obtain ⟨fd, F⟩ := cd.def_ 63 (d := d_Lindex) rfl
    exact ⟨_, fd, F, He.glo_ok X G (cd.fact 54 (f := .glo "_law_index") rfl)⟩
  have F_lead_on : Def K mg "lead_on" s_lead_on := by
    obtain ⟨fd, F⟩ := cd.def_ 15 (d := d_lead_on) rfl
    exact ⟨_, fd, F, He.glo_ok X G (cd.fact 16 (f := .glo "lead_on") rfl)⟩
  obtain ⟨fd_clear_below, E_clear_below⟩ := cd.def_ 16 (d := d_clear_below) rfl
  have F_clear_above : Def K mg "clear_above" s_clear_above := by
    obtain ⟨fd, F⟩ := cd.def_ 17 (d := d_clear_above) rfl
    exact ⟨_, fd, F, He.glo_ok X G (cd.fact 18 (f := .glo "clear_above") rfl)⟩
  have F_steps_deeds : Def K mg "steps_deeds" s_steps_deeds := by
    obtain ⟨fd, F⟩ := cd.def_ 18 (d := d_steps_deeds) rfl
    exact ⟨_, fd, F, He.glo_ok X G (cd.fact 19 (f := .glo "steps_deeds") rfl)⟩
  have F_is_whole : Def K mg "is_whole" s_is_whole := by
    obtain ⟨fd, F⟩ := cd.def_ 0 (d := d_is_whole) rfl
    exact ⟨_, fd, F, He.glo_ok X G (cd.fact 0 (f := .glo "is_whole") rfl)⟩
  have F_is_place : Def K mg "is_place" s_is_place := by
    obtain ⟨fd, F⟩ := cd.def_ 7 (d := d_is_place) rfl
    exact ⟨_, fd, F, He.glo_ok X G (cd.fact 8 (f := .glo "is_place") rfl)⟩
  have F_is_deed : Def K mg "is_deed" s_is_deed := by
    obtain ⟨fd, F⟩ := cd.def_ 8 (d := d_is_deed) rfl
    exact ⟨_, fd, F, He.glo_ok X G (cd.fact 9 (f := .glo "is_deed") rfl)⟩
  have F_look_at : Def K mg "look_at" s_look_at := by
    obtain ⟨fd, F⟩ := cd.def_ 9 (d := d_look_at) rfl
    exact ⟨_, fd, F, He.glo_ok X G (cd.fact 10 (f := .glo "look_at") rfl)⟩
  have F_rows_behind : Def K mg "rows_behind" s_rows_behind := by
    obtain ⟨fd, F⟩ := cd.def_ 10 (d := d_rows_behind) rfl
    exact ⟨_, fd, F, He.glo_ok X G (cd.fact 11 (f := .glo "rows_behind") rfl)⟩
  have F_done : Def K mg "done" s_done := by
    obtain ⟨fd, F⟩ := cd.def_ 11 (d := d_done) rfl
    exact ⟨_, fd, F, He.glo_ok X G (cd.fact 12 (f := .glo "done") rfl)⟩
  have F_steps_of : Def K mg "steps_of" s_steps_of := by
    obtain ⟨fd, F⟩ := cd.def_ 19 (d := d_steps_of) rfl
    exact ⟨_, fd, F, He.glo_ok X G (cd.fact 20 (f := .glo "steps_of") rfl)⟩
  have F_lead_of : Def K mg "lead_of" s_lead_of := by
    obtain ⟨fd, F⟩ := cd.def_ 6 (d := d_lead_of) rfl
    exact ⟨_, fd, F, He.glo_ok X G (cd.fact 6 (f := .glo "lead_of") rfl)⟩
  have F_leads_of : Def K mg "leads_of" s_leads_of := by
    obtain ⟨fd, F⟩ := cd.def_ 20 (d := d_leads_of) rfl
    exact ⟨_, fd, F, He.glo_ok X G (cd.fact 21 (f := .glo "leads_of") rfl)⟩
  have F_rank_of : Def K mg "rank_of" s_rank_of := by
    obtain ⟨fd, F⟩ := cd.def_ 21 (d := d_rank_of) rfl
    exact ⟨_, fd, F, He.glo_ok X G (cd.fact 22 (f := .glo "rank_of") rfl)⟩
  have F_form_of : Def K mg "form_of" s_form_of := by
    obtain ⟨fd, F⟩ := cd.def_ 25 (d := d_form_of) rfl
    exact ⟨_, fd, F, He.glo_ok X G (cd.fact 26 (f := .glo "form_of") rfl)⟩
  have F_lead_in : Def K mg "lead_in" s_lead_in := by
    obtain ⟨fd, F⟩ := cd.def_ 22 (d := d_lead_in) rfl
    exact ⟨_, fd, F, He.glo_ok X G (cd.fact 23 (f := .glo "lead_in") rfl)⟩
  have F_taken : Def K mg "taken" s_taken := by
    obtain ⟨fd, F⟩ := cd.def_ 23 (d := d_taken) rfl
    exact ⟨_, fd, F, He.glo_ok X G (cd.fact 24 (f := .glo "taken") rfl)⟩
  have F_inside : Def K mg "inside" s_inside := by
    obtain ⟨fd, F⟩ := cd.def_ 26 (d := d_inside) rfl
    exact ⟨_, fd, F, He.glo_ok X G (cd.fact 27 (f := .glo "inside") rfl)⟩
  have F_leads_multiplied : Def K mg "leads_multiplied" s_leads_multiplied := by
    obtain ⟨fd, F⟩ := cd.def_ 27 (d := d_leads_multiplied) rfl
    exact ⟨_, fd, F, He.glo_ok X G (cd.fact 28 (f := .glo "leads_multiplied") rfl)⟩
  have F_index_of : Def K mg "index_of" s_index_of := by
    obtain ⟨fd, F⟩ := cd.def_ 28 (d := d_index_of) rfl
    exact ⟨_, fd, F, He.glo_ok X G (cd.fact 29 (f := .glo "index_of") rfl)⟩
  have F_Linside_right : Def K mg "_law_inside_right" s_Linside_right := by
    obtain ⟨fd, F⟩ := cd.def_ 64 (d := d_Linside_right) rfl
    exact ⟨_, fd, F, He.glo_ok X G (cd.fact 55 (f := .glo "_law_inside_right") rfl)⟩
  have F_downs_of : Def K mg "downs_of" s_downs_of := by
    obtain ⟨fd, F⟩ := cd.def_ 29 (d := d_downs_of) rfl
    exact ⟨_, fd, F, He.glo_ok X G (cd.fact 30 (f := .glo "downs_of") rfl)⟩
  have F_Leading_form_now : Mtd K (He.ga K "Leading") "form_now" "Leading.form_now" s_Leading_form_now := by
    obtain ⟨fd, F⟩ := cd.def_ 33 (d := d_Leading_form_now) rfl
    exact ⟨_, fd, F, GL.cls, He.meth_ok (cd.fact 79 (f := .meth "Leading" "form_now") rfl)⟩
  have F_Leading_init : Mkd K mg (He.ga K "Leading") "Leading" "Leading.__init__" s_Leading_init := by
    obtain ⟨fd, F⟩ := cd.def_ 32 (d := d_Leading_init) rfl
    exact ⟨_, fd, F, He.mkr_ok (cd.fact 74 (f := .mkr "Leading") rfl), He.glo_ok X G (cd.fact 33 (f := .glo "Leading") rfl)⟩
  have F_Leading_least_at : Mtd K (He.ga K "Leading") "least_at" "Leading.least_at" s_Leading_least_at := by
    obtain ⟨fd, F⟩ := cd.def_ 39 (d := d_Leading_least_at) rfl
    exact ⟨_, fd, F, GL.cls, He.meth_ok (cd.fact 85 (f := .meth "Leading" "least_at") rfl)⟩
  have F_Leading_swap_rows : Mtd K (He.ga K "Leading") "swap_rows" "Leading.swap_rows" s_Leading_swap_rows := by
    obtain ⟨fd, F⟩ := cd.def_ 34 (d := d_Leading_swap_rows) rfl
    exact ⟨_, fd, F, GL.cls, He.meth_ok (cd.fact 80 (f := .meth "Leading" "swap_rows") rfl)⟩
  have F_Leading_swap_columns : Mtd K (He.ga K "Leading") "swap_columns" "Leading.swap_columns" s_Leading_swap_columns := by
    obtain ⟨fd, F⟩ := cd.def_ 35 (d := d_Leading_swap_columns) rfl
    exact ⟨_, fd, F, GL.cls, He.meth_ok (cd.fact 81 (f := .meth "Leading" "swap_columns") rfl)⟩
  have F_Leading_add_row : Mtd K (He.ga K "Leading") "add_row" "Leading.add_row" s_Leading_add_row := by
    obtain ⟨fd, F⟩ := cd.def_ 36 (d := d_Leading_add_row) rfl
    exact ⟨_, fd, F, GL.cls, He.meth_ok (cd.fact 82 (f := .meth "Leading" "add_row") rfl)⟩
  have F_Leading_add_column : Mtd K (He.ga K "Leading") "add_column" "Leading.add_column" s_Leading_add_column := by
    obtain ⟨fd, F⟩ := cd.def_ 37 (d := d_Leading_add_column) rfl
    exact ⟨_, fd, F, GL.cls, He.meth_ok (cd.fact 83 (f := .meth "Leading" "add_column") rfl)⟩
  have F_Leading_clear_at : Mtd K (He.ga K "Leading") "clear_at" "Leading.clear_at" s_Leading_clear_at := by
    obtain ⟨fd, F⟩ := cd.def_ 40 (d := d_Leading_clear_at) rfl
    exact ⟨_, fd, F, GL.cls, He.meth_ok (cd.fact 86 (f := .meth "Leading" "clear_at") rfl)⟩
  have F_Leading_undivided : Mtd K (He.ga K "Leading") "undivided" "Leading.undivided" s_Leading_undivided := by
    obtain ⟨fd, F⟩ := cd.def_ 41 (d := d_Leading_undivided) rfl
    exact ⟨_, fd, F, GL.cls, He.meth_ok (cd.fact 87 (f := .meth "Leading" "undivided") rfl)⟩
  have F_Leading_turn_up : Mtd K (He.ga K "Leading") "turn_up" "Leading.turn_up" s_Leading_turn_up := by
    obtain ⟨fd, F⟩ := cd.def_ 38 (d := d_Leading_turn_up) rfl
    exact ⟨_, fd, F, GL.cls, He.meth_ok (cd.fact 84 (f := .meth "Leading" "turn_up") rfl)⟩
  have F_Leading_settle : Mtd K (He.ga K "Leading") "settle" "Leading.settle" s_Leading_settle := by
    obtain ⟨fd, F⟩ := cd.def_ 42 (d := d_Leading_settle) rfl
    exact ⟨_, fd, F, GL.cls, He.meth_ok (cd.fact 88 (f := .meth "Leading" "settle") rfl)⟩
  have F_led_to_rounds : Def K mg "led_to_rounds" s_led_to_rounds := by
    obtain ⟨fd, F⟩ := cd.def_ 43 (d := d_led_to_rounds) rfl
    exact ⟨_, fd, F, He.glo_ok X G (cd.fact 34 (f := .glo "led_to_rounds") rfl)⟩
  have F_rounds_of : Def K mg "rounds_of" s_rounds_of := by
    obtain ⟨fd, F⟩ := cd.def_ 44 (d := d_rounds_of) rfl
    exact ⟨_, fd, F, He.glo_ok X G (cd.fact 35 (f := .glo "rounds_of") rfl)⟩
  have F_left_by : Def K mg "left_by" s_left_by := by
    obtain ⟨fd, F⟩ := cd.def_ 46 (d := d_left_by) rfl
    exact ⟨_, fd, F, He.glo_ok X G (cd.fact 37 (f := .glo "left_by") rfl)⟩
  have F_classes_of : Def K mg "classes_of" s_classes_of := by
    obtain ⟨fd, F⟩ := cd.def_ 47 (d := d_classes_of) rfl
    exact ⟨_, fd, F, He.glo_ok X G (cd.fact 38 (f := .glo "classes_of") rfl)⟩
  have F_unit_row : Def K mg "unit_row" s_unit_row := by
    obtain ⟨fd, F⟩ := cd.def_ 1 (d := d_unit_row) rfl
    exact ⟨_, fd, F, He.glo_ok X G (cd.fact 1 (f := .glo "unit_row") rfl)⟩
  have F_unit : Def K mg "unit" s_unit := by
    obtain ⟨fd, F⟩ := cd.def_ 2 (d := d_unit) rfl
    exact ⟨_, fd, F, He.glo_ok X G (cd.fact 2 (f := .glo "unit") rfl)⟩
  have F_deeds_table : Def K mg "deeds_table" s_deeds_table := by
    obtain ⟨fd, F⟩ := cd.def_ 12 (d := d_deeds_table) rfl
    exact ⟨_, fd, F, He.glo_ok X G (cd.fact 13 (f := .glo "deeds_table") rfl)⟩
  have F_contrary_deed : Def K mg "contrary_deed" s_contrary_deed := by
    obtain ⟨fd, F⟩ := cd.def_ 13 (d := d_contrary_deed) rfl
    exact ⟨_, fd, F, He.glo_ok X G (cd.fact 14 (f := .glo "contrary_deed") rfl)⟩
  have F_led_back : Def K mg "led_back" s_led_back := by
    obtain ⟨fd, F⟩ := cd.def_ 14 (d := d_led_back) rfl
    exact ⟨_, fd, F, He.glo_ok X G (cd.fact 15 (f := .glo "led_back") rfl)⟩
  have F_column_of : Def K mg "column_of" s_column_of := by
    obtain ⟨fd, F⟩ := cd.def_ 4 (d := d_column_of) rfl
    exact ⟨_, fd, F, He.glo_ok X G (cd.fact 4 (f := .glo "column_of") rfl)⟩
  have F_turned_over : Def K mg "turned_over" s_turned_over := by
    obtain ⟨fd, F⟩ := cd.def_ 5 (d := d_turned_over) rfl
    exact ⟨_, fd, F, He.glo_ok X G (cd.fact 5 (f := .glo "turned_over") rfl)⟩
  have F_rounds_paper : Def K mg "rounds_paper" s_rounds_paper := by
    obtain ⟨fd, F⟩ := cd.def_ 45 (d := d_rounds_paper) rfl
    exact ⟨_, fd, F, He.glo_ok X G (cd.fact 36 (f := .glo "rounds_paper") rfl)⟩
  have F_rested : Def K mg "rested" s_rested := by
    obtain ⟨fd, F⟩ := cd.def_ 30 (d := d_rested) rfl
    exact ⟨_, fd, F, He.glo_ok X G (cd.fact 31 (f := .glo "rested") rfl)⟩
  have F_row_times : Def K mg "row_times" s_row_times := by
    obtain ⟨fd, F⟩ := cd.def_ 3 (d := d_row_times) rfl
    exact ⟨_, fd, F, He.glo_ok X G (cd.fact 3 (f := .glo "row_times") rfl)⟩
  have F_place_of : Def K mg "place_of" s_place_of := by
    obtain ⟨fd, F⟩ := cd.def_ 31 (d := d_place_of) rfl
    exact ⟨_, fd, F, He.glo_ok X G (cd.fact 32 (f := .glo "place_of") rfl)⟩
  have F_shared_part : Def K mg "shared_part" s_shared_part := by
    obtain ⟨fd, F⟩ := cd.def_ 48 (d := d_shared_part) rfl
    exact ⟨_, fd, F, He.glo_ok X G (cd.fact 39 (f := .glo "shared_part") rfl)⟩
  have F_order_of : Def K mg "order_of" s_order_of := by
    obtain ⟨fd, F⟩ := cd.def_ 49 (d := d_order_of) rfl
    exact ⟨_, fd, F, He.glo_ok X G (cd.fact 40 (f := .glo "order_of") rfl)⟩
  have F_Lorder : Def K mg "_law_order" s_Lorder := by
    obtain ⟨fd, F⟩ := cd.def_ 61 (d := d_Lorder) rfl
    exact ⟨_, fd, F, He.glo_ok X G (cd.fact 52 (f := .glo "_law_order") rfl)⟩
  have F_rest_of : Def K mg "rest_of" s_rest_of := by
    obtain ⟨fd, F⟩ := cd.def_ 24 (d := d_rest_of) rfl
    exact ⟨_, fd, F, He.glo_ok X G (cd.fact 25 (f := .glo "rest_of") rfl)⟩
  have F_Lgone : Def K mg "_law_gone" s_Lgone := by
    obtain ⟨fd, F⟩ := cd.def_ 60 (d := d_Lgone) rfl
    exact ⟨_, fd, F, He.glo_ok X G (cd.fact 51 (f := .glo "_law_gone") rfl)⟩
  have F_killed_by : Def K mg "killed_by" s_killed_by := by
    obtain ⟨fd, F⟩ := cd.def_ 50 (d := d_killed_by) rfl
    exact ⟨_, fd, F, He.glo_ok X G (cd.fact 41 (f := .glo "killed_by") rfl)⟩
  have F_Lleft_right : Def K mg "_law_left_right" s_Lleft_right := by
    obtain ⟨fd, F⟩ := cd.def_ 62 (d := d_Lleft_right) rfl
    exact ⟨_, fd, F, He.glo_ok X G (cd.fact 53 (f := .glo "_law_left_right") rfl)⟩
  obtain ⟨fdl, FL⟩ := cd.def_ 65 (d := d_law) rfl
  have e := hfa.symm.trans (He.glo_ok X G (cd.fact 56 (f := .glo "law") rfl))
  cases e
  have b := FunD.bindsA (ps := ["_law_script"]) FL fun _ _ _ _ _ _ us hl => match us, hl with | [_], _ => rfl
  refine ⟨fdl, fun s v => b s [v] rfl, fun base _ _ tb => ?_⟩
  have DC1 := defC_of (x := "clear_below") (st := s_clear_below) E_clear_below (He.glo_ok X G (cd.fact 17 (f := .glo "clear_below") rfl)) (tb _ List.mem_cons_self)
  have DC2 := defC_of (x := "_law_steps") (st := s_Lsteps) E_Lsteps (He.glo_ok X G (cd.fact 46 (f := .glo "_law_steps") rfl)) (tb _ (List.mem_cons_of_mem _ List.mem_cons_self))
  exact joined B LD GL DC1 List.mem_cons_self (tabT_u1 hne) DC2 (List.mem_cons_of_mem _ List.mem_cons_self) (tabT_u2 hne) F_Lfeed F_Ldraw F_Lfirst F_Ladded F_Lsums F_Llead F_Lrest F_Lis_in F_Lindex F_lead_on F_clear_above F_steps_deeds F_is_whole F_is_place F_is_deed F_look_at F_rows_behind F_done F_steps_of F_lead_of F_leads_of F_rank_of F_form_of F_lead_in F_taken F_inside F_leads_multiplied F_index_of F_Linside_right F_downs_of F_Leading_form_now F_Leading_init F_Leading_least_at F_Leading_swap_rows F_Leading_swap_columns F_Leading_add_row F_Leading_add_column F_Leading_clear_at F_Leading_undivided F_Leading_turn_up F_Leading_settle F_led_to_rounds F_rounds_of F_left_by F_classes_of F_unit_row F_unit F_deeds_table F_contrary_deed F_led_back F_column_of F_turned_over F_rounds_paper F_rested F_row_times F_place_of F_shared_part F_order_of F_Lorder F_rest_of F_Lgone F_killed_by F_Lleft_right FL
end K94

set_option Elab.async false
set_option linter.all false
set_option maxRecDepth 100000
set_option maxHeartbeats 0
/-! W35: the law holds. -/
namespace K94
open PySem PySem.Spec PyProof.Rows L2
theorem lawAt {w : World} {K : PySem.W.Frag} {h : Heap} {mg : Str → Option Value} {fl : Addr} (X : K.In h) (G : h.Ns mainGlobals mg) (hfa : mg ("law" : Str) = some (.ref fl)) (c : He.SaysX fa fn ts tf ex w h K) :
    LamX.LawAtS PySem.Challenge.rw_stepforms_k94_whole_indexes_multiply w K CX0 13 63 "_law_script" mg fl h := by
  obtain ⟨fd, hb, hF⟩ := facts (P := PySem.Challenge.rw_stepforms_k94_whole_indexes_multiply.prog) (w := w) X G hfa c
  have m1 : (("clear_below", none) : He.Defn) ∈ tf := List.mem_cons_self
  have m2 : (("_law_steps", none) : He.Defn) ∈ tf := List.mem_cons_of_mem _ List.mem_cons_self
  have two : ∀ {Pr : Addr × Addr → Prop}, Pr (He.cT K ("clear_below", none)) → Pr (He.cT K ("_law_steps", none)) → ∀ p ∈ tabA K, Pr p := fun h1 h2 p hp => by
    rcases List.mem_cons.mp hp with rfl | hp
    · exact h1
    · rcases List.mem_cons.mp hp with rfl | hp
      · exact h2
      · cases hp
  refine ⟨fd, tabA K, spLaw (tabT K) K, two (c.empty _ m1) (c.empty _ m2), two (c.out _ m1) (c.out _ m2), two (PySem.W.codeHd_of_K X (c.hd _ m1)) (PySem.W.codeHd_of_K X (c.hd _ m2)), hb, fun H a ns _ _ hH hS => ⟨a, ns, rfl, hS, fun p hp => ?_, fun _ => rfl⟩, hF⟩
  rcases List.mem_cons.mp hp with rfl | hp
  · exact .nil (hH _ List.mem_cons_self)
  · rcases List.mem_cons.mp hp with rfl | hp
    · exact .nil (hH _ (List.mem_cons_of_mem _ List.mem_cons_self))
    · cases hp
end K94
open PySem PySem.W PySem.Calls PyProof.Rows
theorem PySem.Challenge.cw_stepforms_k94_whole_indexes_multiply_holds : PySem.Challenge.rw_stepforms_k94_whole_indexes_multiply.Holds := by
  w_on; o_law
  refine HandSHeadRun.head_any (r := OpenLaw.row PySem.Challenge.rw_stepforms_k94_whole_indexes_multiply) (q := view (OpenLaw.row PySem.Challenge.rw_stepforms_k94_whole_indexes_multiply).prog [71]) (H := K94.hk) (ob := K94.ob) (M := 4000) (loose := K94.loose) (d := HandSHeadRun.topDef (OpenLaw.row PySem.Challenge.rw_stepforms_k94_whole_indexes_multiply).prog 71) (kwd := []) K94.ob_eq
    (by kernel_rfl) (fun s => by kernel_rfl) K94.run (by kernel_rfl) (by kernel_rfl) (by kernel_rfl) (by rfl) (by first | assumption | decide +kernel) (by decide +kernel) ⟨rfl, rfl, rfl, rfl, rfl, by decide +kernel⟩ ?hw ?hc
  case hw => w_witness2
  case hc =>
    refine LamX.walk_ofTsE (l := PySem.Challenge.rw_stepforms_k94_whole_indexes_multiply) (n := 63) (k := 13) (x := "_law_script") (CX := fun _ => L2.CX0) rfl (by decide) (by kernel_rfl) ⟨rfl, by decide, by decide⟩ ?F (fun _ _ _ _ _ z => z)
    intro w mg fa h Y G hmg0
    obtain ⟨K, KX, c⟩ := Y
    have hmg : mg ("law" : PySem.Str) = some (.ref fa) := by
      have e : (HandSHeadRun.topDef (OpenLaw.row PySem.Challenge.rw_stepforms_k94_whole_indexes_multiply).prog 71).name = ("law" : PySem.Str) := by kernel_rfl
      rw [← e]
      exact hmg0
    exact ⟨K, KX, K94.lawAt KX G hmg c⟩

