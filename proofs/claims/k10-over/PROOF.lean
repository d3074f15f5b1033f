import PyProof.Rows.All
import HandS.ForMost
import HandS.Exc
import HandS.TryOnly
import HandS.ExcOwn
import HandS.WordsExc
import HandS.Wide
import HandS.CallSlots
import HandS.Iter
import HandS.Comp
import HandS.TupAny
import HandS.Deep
import HandS.Text
import HandS.Dict
import HandS.Style
import HandS.Zip
import KE.GoesNew
import KE.GoesEnum
import HandS.TupLen
import HandS.TupSets
import HandS.IsInst
import KE.KDictPairs
import KE.KDictDisplayH
import KE.KDictSum
import KE.SortData
import HandS.Conv
import HandS.Defaults
import KE.KEqDict
import HandS.OwnEq
import KE.KDictCopyH
import HandS.FStr
import HandS.HeadEnd
import KE.DataMinMax
import PyProof.ReprNest
import PySem.Challenge.RW_meetcount_k10_curves_over_curves
import HandS.Head0
import HandS.Head1
import HandS.Head2
import HandS.HeadHook4
set_option Elab.async false
set_option linter.all false
set_option maxRecDepth 100000
set_option exponentiation.threshold 2000
set_option autoImplicit true
set_option autoImplicit false
/-! Forms in three letters, as tables. -/
namespace PM
abbrev P3 := Int × Int × Int
abbrev Tb := List (P3 × Int)
def keys (t : Tb) : List P3 := t.map (·.1)
def val (t : Tb) (p : P3) : Option Int := (t.find? fun x => decide (x.1 = p)).map (·.2)
def cf (t : Tb) (p : P3) : Int := (val t p).getD 0
def put (t : Tb) (p : P3) (n : Int) : Tb := if (t.any fun x => decide (x.1 = p)) = true then t.map fun x => if x.1 = p then (x.1, n) else x else t ++ [(p, n)]
theorem val_nil (p : P3) : val [] p = none := rfl
theorem val_cons (x : P3 × Int) (t : Tb) (p : P3) : val (x :: t) p = if x.1 = p then some x.2 else val t p := by
  unfold val
  rw [List.find?_cons]
  by_cases h : x.1 = p
  · simp [h]
  · simp [h]
theorem cf_nil (p : P3) : cf [] p = 0 := rfl
theorem cf_cons (x : P3 × Int) (t : Tb) (p : P3) : cf (x :: t) p = if x.1 = p then x.2 else cf t p := by
  unfold cf
  rw [val_cons]
  split <;> rfl
theorem val_none {t : Tb} {p : P3} : val t p = none ↔ p ∉ keys t := by
  induction t with
  | nil => simp [val_nil, keys]
  | cons x t ih =>
    rw [val_cons]
    by_cases h : x.1 = p
    · simp [h, keys]
    · rw [if_neg h, ih]
      have : p ≠ x.1 := fun z => h z.symm
      simp [keys, this]
theorem val_some {t : Tb} {p : P3} {n : Int} (h : val t p = some n) : (p, n) ∈ t := by
  induction t with
  | nil => cases h
  | cons x t ih =>
    rw [val_cons] at h
    by_cases z : x.1 = p
    · rw [if_pos z] at h
      cases h; cases z
      simp
    · rw [if_neg z] at h
      exact List.mem_cons_of_mem _ (ih h)
theorem val_mem {t : Tb} (nd : (keys t).Nodup) {x : P3 × Int} (h : x ∈ t) : val t x.1 = some x.2 := by
  induction t with
  | nil => cases h
  | cons y t ih =>
    rw [val_cons]
    unfold keys at nd
    rw [List.map_cons, List.nodup_cons] at nd
    rcases List.mem_cons.mp h with rfl | h
    · simp
    · have : y.1 ≠ x.1 := fun z => nd.1 (z ▸ List.mem_map_of_mem (f := (·.1)) h)
      rw [if_neg this]
      exact ih nd.2 h
theorem cf_mem {t : Tb} (nd : (keys t).Nodup) {x : P3 × Int} (h : x ∈ t) : cf t x.1 = x.2 := by
  unfold cf; rw [val_mem nd h]; rfl
theorem any_keys {t : Tb} {p : P3} : (t.any fun x => decide (x.1 = p)) = true ↔ p ∈ keys t := by
  simp [keys]
theorem keys_put (t : Tb) (p : P3) (n : Int) : keys (put t p n) = if p ∈ keys t then keys t else keys t ++ [p] := by
  unfold put
  by_cases h : p ∈ keys t
  · rw [if_pos (any_keys.mpr h), if_pos h]
    unfold keys
    rw [List.map_map]
    apply List.map_congr_left
    intro x hx
    simp only [Function.comp]
    split <;> rfl
  · rw [if_neg (fun z => h (any_keys.mp z)), if_neg h]
    simp [keys]
theorem nd_put {t : Tb} (nd : (keys t).Nodup) (p : P3) (n : Int) : (keys (put t p n)).Nodup := by
  rw [keys_put]
  split
  · exact nd
  · rename_i h
    rw [List.nodup_append]
    refine ⟨nd, by simp, fun a ha b hb => ?_⟩
    simp at hb
    subst hb
    exact fun z => h (z ▸ ha)
theorem val_map_put (t : Tb) (p q : P3) (n : Int) : val (t.map fun x => if x.1 = p then (x.1, n) else x) q = if q = p ∧ q ∈ keys t then some n else val t q := by
  induction t with
  | nil => simp [val_nil, keys]
  | cons x t ih =>
    rw [List.map_cons, val_cons, val_cons, ih]
    by_cases h : x.1 = p
    · by_cases z : x.1 = q
      · subst h; subst z
        simp [keys]
      · have z2 : q ≠ p := fun w => z (h.trans w.symm)
        have z3 : ¬(p = q) := fun w => z2 w.symm
        simp [h, z2, z3]
    · by_cases z : x.1 = q
      · have z2 : q ≠ p := fun w => h (z.trans w)
        simp [h, z, z2]
      · have z2 : q ≠ x.1 := fun w => z w.symm
        have e : (q ∈ keys (x :: t)) ↔ q ∈ keys t := by simp [keys, z2]
        simp only [h, z, if_false, e]
theorem cf_put (t : Tb) (p q : P3) (n : Int) : cf (put t p n) q = if q = p then n else cf t q := by
  unfold put
  by_cases h : p ∈ keys t
  · rw [if_pos (any_keys.mpr h)]
    unfold cf
    rw [val_map_put]
    by_cases z : q = p
    · subst z; simp [h]
    · simp [z]
  · rw [if_neg (fun z => h (any_keys.mp z))]
    induction t with
    | nil =>
      rw [List.nil_append, cf_cons, cf_nil]
      by_cases z : q = p
      · simp [z]
      · have : p ≠ q := fun w => z w.symm
        simp [z, this]
    | cons x t ih =>
      unfold keys at h
      rw [List.map_cons, List.mem_cons, not_or] at h
      rw [List.cons_append, cf_cons, cf_cons, ih h.2]
      by_cases z : x.1 = q
      · have : q ≠ p := fun w => h.1 (w.symm.trans z.symm)
        simp [z, this]
      · simp [z]
theorem mem_put {t : Tb} {p : P3} {n : Int} {x : P3 × Int} (h : x ∈ put t p n) : x = (p, n) ∨ x ∈ t := by
  unfold put at h
  split at h
  · obtain ⟨y, hy, rfl⟩ := List.mem_map.mp h
    split
    · rename_i e; exact .inl (by rw [e])
    · exact .inr hy
  · rcases List.mem_append.mp h with h | h
    · exact .inr h
    · exact .inl (by simpa using h)
/-- number added at p -/
def addT (t : Tb) (p : P3) (n : Int) : Tb := put t p (cf t p + n)
theorem cf_addT (t : Tb) (p q : P3) (n : Int) : cf (addT t p n) q = cf t q + if q = p then n else 0 := by
  unfold addT
  rw [cf_put]
  split
  · rename_i h; subst h; rfl
  · simp
def thin (t : Tb) : Tb := t.filter fun x => decide (x.2 ≠ 0)
theorem nd_thin {t : Tb} (nd : (keys t).Nodup) : (keys (thin t)).Nodup := List.Nodup.sublist (List.Sublist.map _ List.filter_sublist) nd
theorem cf_thin {t : Tb} (nd : (keys t).Nodup) (q : P3) : cf (thin t) q = cf t q := by
  induction t with
  | nil => rfl
  | cons x t ih =>
    unfold keys at nd
    rw [List.map_cons, List.nodup_cons] at nd
    unfold thin
    rw [List.filter_cons]
    by_cases h : x.2 ≠ 0
    · rw [if_pos (by simpa using h), cf_cons, cf_cons]
      have := ih nd.2
      unfold thin at this
      rw [this]
    · rw [if_neg (by simpa using h), cf_cons]
      have := ih nd.2
      unfold thin at this
      rw [this]
      by_cases z : x.1 = q
      · rw [if_pos z]
        have : val t q = none := val_none.mpr (z ▸ nd.1)
        unfold cf; rw [this]
        simp at h
        simp [h]
      · rw [if_neg z]
/-- every key once, no nought -/
structure Gd (t : Tb) : Prop where
  nd : (keys t).Nodup
  nz : ∀ x ∈ t, x.2 ≠ 0
theorem gd_thin {t : Tb} (nd : (keys t).Nodup) : Gd (thin t) := ⟨nd_thin nd, fun x hx => by
  have := (List.mem_filter.mp hx).2
  simpa using this⟩
theorem Gd.key {t : Tb} (g : Gd t) (p : P3) : p ∈ keys t ↔ cf t p ≠ 0 := by
  constructor
  · intro h
    obtain ⟨x, hx, rfl⟩ := List.mem_map.mp h
    rw [cf_mem g.nd hx]
    exact g.nz x hx
  · intro h
    cases z : val t p with
    | none => exact absurd (by unfold cf; rw [z]; rfl) h
    | some n => exact List.mem_map_of_mem (f := (·.1)) (val_some z)
/-! ### order -/
def Lt (p q : P3) : Prop := p.1 < q.1 ∨ (p.1 = q.1 ∧ (p.2.1 < q.2.1 ∨ (p.2.1 = q.2.1 ∧ p.2.2 < q.2.2)))
instance (p q : P3) : Decidable (Lt p q) := by unfold Lt; infer_instance
theorem P3.eq {p q : P3} (h1 : p.1 = q.1) (h2 : p.2.1 = q.2.1) (h3 : p.2.2 = q.2.2) : p = q := by
  obtain ⟨a, b, c⟩ := p
  obtain ⟨d, e, f⟩ := q
  simp at h1 h2 h3
  subst h1 h2 h3
  rfl
theorem Lt.irrefl (p : P3) : ¬Lt p p := by unfold Lt; omega
theorem Lt.trans {p q r : P3} (h : Lt p q) (k : Lt q r) : Lt p r := by unfold Lt at *; omega
theorem Lt.tri (p q : P3) : Lt p q ∨ p = q ∨ Lt q p := by
  by_cases h : p = q
  · exact .inr (.inl h)
  · have : ¬(p.1 = q.1 ∧ p.2.1 = q.2.1 ∧ p.2.2 = q.2.2) := fun ⟨a, b, c⟩ => h (P3.eq a b c)
    unfold Lt
    omega
def le (x y : P3 × Int) : Bool := !decide (Lt y.1 x.1)
theorem le_trans (x y z : P3 × Int) (h : le x y = true) (k : le y z = true) : le x z = true := by
  unfold le at *
  simp only [Bool.not_eq_true', decide_eq_false_iff_not] at *
  unfold Lt at *
  omega
theorem le_total (x y : P3 × Int) : (le x y || le y x) = true := by
  unfold le
  by_cases h : Lt y.1 x.1
  · have : ¬Lt x.1 y.1 := fun k => Lt.irrefl _ (h.trans k)
    simp [h, this]
  · simp [h]
def sorted (t : Tb) : Tb := (t.mergeSort le).reverse
theorem sorted_perm (t : Tb) : (sorted t).Perm t := (List.reverse_perm _).trans (List.mergeSort_perm _ _)
theorem sorted_mem {t : Tb} {x : P3 × Int} : x ∈ sorted t ↔ x ∈ t := (sorted_perm t).mem_iff
theorem sorted_keys {t : Tb} (nd : (keys t).Nodup) : (keys (sorted t)).Pairwise fun p q => Lt q p := by
  have h1 : (t.mergeSort le).Pairwise fun x y => le x y = true := List.pairwise_mergeSort le_trans le_total t
  have h2 : (keys (sorted t)).Nodup := ((sorted_perm t).map _).nodup_iff.mpr nd
  unfold sorted at h2 ⊢
  unfold keys at h2 ⊢
  rw [List.map_reverse] at h2 ⊢
  have h2 := (List.reverse_perm _).nodup_iff.mp h2
  rw [List.pairwise_reverse]
  rw [List.pairwise_map]
  unfold List.Nodup at h2
  rw [List.pairwise_map] at h2
  exact (h1.and h2).imp fun {a b} ⟨u, v⟩ => by
    rcases Lt.tri a.1 b.1 with h | h | h
    · exact h
    · exact absurd h v
    · unfold le at u; simp [h] at u
/-- two falling lists of the same members are one -/
theorem fall_one : ∀ {l m : List P3}, (l.Pairwise fun p q => Lt q p) → (m.Pairwise fun p q => Lt q p) → (∀ p, p ∈ l ↔ p ∈ m) → l = m
  | [], [], _, _, _ => rfl
  | [], q :: m, _, _, h => by have := (h q).mpr (by simp); cases this
  | p :: l, [], _, _, h => by have := (h p).mp (by simp); cases this
  | p :: l, q :: m, hl, hm, h => by
    rw [List.pairwise_cons] at hl hm
    have e : p = q := by
      rcases List.mem_cons.mp ((h p).mp (by simp)) with z | z
      · exact z
      · rcases List.mem_cons.mp ((h q).mpr (by simp)) with w | w
        · exact w.symm
        · exact absurd ((hm.1 p z).trans (hl.1 q w)) (Lt.irrefl _)
    subst e
    rw [fall_one hl.2 hm.2 fun r => ?_]
    have hr := h r
    rw [List.mem_cons, List.mem_cons] at hr
    constructor
    · intro z
      rcases hr.mp (.inr z) with w | w
      · subst w; exact absurd (hl.1 r z) (Lt.irrefl _)
      · exact w
    · intro z
      rcases hr.mpr (.inr z) with w | w
      · subst w; exact absurd (hm.1 r z) (Lt.irrefl _)
      · exact w
/-! ### share -/
def share (t : Tb) : Nat := t.foldl (fun g x => Nat.gcd g x.2.natAbs) 0
theorem foldl_gcd_dvd (d : Nat) : ∀ (t : Tb) (g : Nat), d ∣ t.foldl (fun g x => Nat.gcd g x.2.natAbs) g ↔ d ∣ g ∧ ∀ x ∈ t, d ∣ x.2.natAbs
  | [], g => by simp
  | x :: t, g => by
    rw [List.foldl_cons, foldl_gcd_dvd d t, Nat.dvd_gcd_iff]
    simp [and_assoc]
theorem dvd_share {d : Nat} {t : Tb} : d ∣ share t ↔ ∀ x ∈ t, d ∣ x.2.natAbs := by
  unfold share
  rw [foldl_gcd_dvd]
  simp
theorem share_dvd {t : Tb} {x : P3 × Int} (h : x ∈ t) : share t ∣ x.2.natAbs := dvd_share.mp (Nat.dvd_refl _) x h
theorem share_pos {t : Tb} (g : Gd t) (h : t ≠ []) : 0 < share t := by
  cases t with
  | nil => exact absurd rfl h
  | cons x t =>
    have h1 := share_dvd (t := x :: t) (x := x) (by simp)
    have h2 := g.nz x (by simp)
    rcases Nat.eq_zero_or_pos (share (x :: t)) with z | z
    · rw [z] at h1
      have := Nat.eq_zero_of_zero_dvd h1
      omega
    · exact z
/-- the share as it is divided by: the first term's sign -/
def sgn (t : Tb) : Int := match sorted t with
  | x :: _ => if x.2 < 0 then -1 else 1
  | [] => 1
def div (t : Tb) : Int := sgn t * share t
def norm (t : Tb) : Tb := (sorted t).map fun x => (x.1, x.2.fdiv (div t))
end PM

set_option autoImplicit true
set_option autoImplicit false
/-! Forms: the kept form is one for all that are alike but for a factor. -/
namespace PM
theorem sorted_ne {t : Tb} (h : t ≠ []) : sorted t ≠ [] := by
  intro z
  have := (sorted_perm t).length_eq
  rw [z] at this
  cases t with
  | nil => exact h rfl
  | cons x t => simp at this
theorem sgn_or (t : Tb) : sgn t = 1 ∨ sgn t = -1 := by
  unfold sgn
  split
  · split
    · exact .inr rfl
    · exact .inl rfl
  · exact .inl rfl
theorem div_natAbs (t : Tb) : (div t).natAbs = share t := by
  unfold div
  rcases sgn_or t with h | h <;> rw [h] <;> simp
theorem div_ne {t : Tb} (g : Gd t) (h : t ≠ []) : div t ≠ 0 := by
  have := share_pos g h
  have := div_natAbs t
  omega
theorem div_dvd {t : Tb} {x : P3 × Int} (h : x ∈ t) : div t ∣ x.2 := by
  rw [← Int.natAbs_dvd_natAbs, div_natAbs]
  exact share_dvd h
theorem mul_fdiv {d n : Int} (h : d ∣ n) : d * n.fdiv d = n := Int.mul_fdiv_cancel' h
theorem fdiv_abs {d n : Int} (h : d ∣ n) : (n.fdiv d).natAbs ≤ n.natAbs := by
  have e := mul_fdiv h
  by_cases z : d = 0
  · subst z; simp
  · have : n.natAbs = d.natAbs * (n.fdiv d).natAbs := by rw [← Int.natAbs_mul, e]
    rw [this]
    have : 0 < d.natAbs := by omega
    exact Nat.le_mul_of_pos_left _ this
theorem norm_keys (t : Tb) : keys (norm t) = keys (sorted t) := by
  unfold norm keys
  rw [List.map_map]
  rfl
theorem norm_mem {t : Tb} {y : P3 × Int} (h : y ∈ norm t) : ∃ x ∈ t, y = (x.1, x.2.fdiv (div t)) ∧ div t * y.2 = x.2 := by
  obtain ⟨x, hx, rfl⟩ := List.mem_map.mp h
  have hx := sorted_mem.mp hx
  exact ⟨x, hx, rfl, mul_fdiv (div_dvd hx)⟩
theorem gd_norm {t : Tb} (g : Gd t) : Gd (norm t) := by
  constructor
  · rw [norm_keys]
    exact ((sorted_perm t).map _).nodup_iff.mpr g.nd
  · intro y hy
    obtain ⟨x, hx, _, e⟩ := norm_mem hy
    intro z
    rw [z] at e
    have := g.nz x hx
    omega
theorem norm_ne {t : Tb} (h : t ≠ []) : norm t ≠ [] := by
  unfold norm
  simp [sorted_ne h]
theorem keys_norm {t : Tb} (p : P3) : p ∈ keys (norm t) ↔ p ∈ keys t := by
  rw [norm_keys]
  exact ((sorted_perm t).map _).mem_iff
theorem cf_norm {t : Tb} (g : Gd t) (p : P3) : div t * cf (norm t) p = cf t p := by
  by_cases h : p ∈ keys t
  · obtain ⟨y, hy, rfl⟩ := List.mem_map.mp ((keys_norm p).mpr h)
    obtain ⟨x, hx, e, e2⟩ := norm_mem hy
    rw [cf_mem (gd_norm g).nd hy, e2, e, cf_mem g.nd hx]
  · have h1 := val_none.mpr h
    have h2 := val_none.mpr fun z => h ((keys_norm p).mp z)
    unfold cf
    rw [h1, h2]
    simp
/-- the first term's sign is the number's there -/
theorem sgn_cf {t : Tb} (g : Gd t) {p : P3} (h : (keys (sorted t)).head? = some p) : sgn t = if cf t p < 0 then -1 else 1 := by
  unfold sgn
  unfold keys at h
  cases e : sorted t with
  | nil => rw [e] at h; cases h
  | cons x r =>
    rw [e] at h
    simp at h
    subst h
    have : x ∈ t := sorted_mem.mp (by rw [e]; simp)
    rw [cf_mem g.nd this]
theorem norm_map {t : Tb} (g : Gd t) : norm t = (keys (sorted t)).map fun p => (p, (cf t p).fdiv (div t)) := by
  unfold norm keys
  rw [List.map_map]
  apply List.map_congr_left
  intro x hx
  simp only [Function.comp]
  rw [cf_mem g.nd (sorted_mem.mp hx)]
theorem keys_eq {t u : Tb} (g : Gd t) (k : Gd u) {α β : Int} (hα : α ≠ 0) (hβ : β ≠ 0) (h : ∀ p, α * cf t p = β * cf u p) : keys (sorted t) = keys (sorted u) := by
  refine fall_one (sorted_keys g.nd) (sorted_keys k.nd) fun p => ?_
  have h1 : p ∈ keys (sorted t) ↔ p ∈ keys t := ((sorted_perm t).map _).mem_iff
  have h2 : p ∈ keys (sorted u) ↔ p ∈ keys u := ((sorted_perm u).map _).mem_iff
  rw [h1, h2, g.key, k.key]
  have := h p
  constructor
  · intro z w
    rw [w, Int.mul_zero] at this
    rcases Int.mul_eq_zero.mp this with a | a
    · exact hα a
    · exact z a
  · intro z w
    rw [w, Int.mul_zero] at this
    rcases Int.mul_eq_zero.mp this.symm with a | a
    · exact hβ a
    · exact z a
theorem share_scale {t u : Tb} (g : Gd t) (k : Gd u) {α β : Int} (hα : α ≠ 0) (hβ : β ≠ 0) (h : ∀ p, α * cf t p = β * cf u p) : α.natAbs * share t ∣ β.natAbs * share u := by
  -- α share t divides each β x of u; then it divides their gcd
  have key : ∀ x ∈ u, α.natAbs * share t ∣ β.natAbs * x.2.natAbs := by
    intro x hx
    have e : β * x.2 = α * cf t x.1 := by rw [h, cf_mem k.nd hx]
    rw [← Int.natAbs_mul, e, Int.natAbs_mul]
    apply Nat.mul_dvd_mul_left
    by_cases z : x.1 ∈ keys t
    · obtain ⟨y, hy, e2⟩ := List.mem_map.mp z
      rw [← e2, cf_mem g.nd hy]
      exact share_dvd hy
    · have := val_none.mpr z
      unfold cf; rw [this]; simp
  have gen : ∀ (u : Tb) (a b c d : Nat), (∀ x ∈ u, a ∣ b * x.2.natAbs) → a ∣ b * c → a ∣ b * u.foldl (fun g x => Nat.gcd g x.2.natAbs) c := by
    intro u
    induction u with
    | nil => intro a b c d _ hc; exact hc
    | cons x u ih =>
      intro a b c d hx hc
      rw [List.foldl_cons]
      refine ih a b _ d (fun y hy => hx y (by simp [hy])) ?_
      rw [← Nat.gcd_mul_left]
      exact Nat.dvd_gcd hc (hx x (by simp))
  exact gen u _ _ 0 0 key (by simp)
theorem norm_eq {t u : Tb} (g : Gd t) (k : Gd u) (ht : t ≠ []) (hu : u ≠ []) {α β : Int} (hα : α ≠ 0) (hβ : β ≠ 0) (h : ∀ p, α * cf t p = β * cf u p) : norm t = norm u := by
  have hk := keys_eq g k hα hβ h
  have e1 : α.natAbs * share t = β.natAbs * share u := Nat.dvd_antisymm (share_scale g k hα hβ h) (share_scale k g hβ hα fun p => (h p).symm)
  -- the signs
  have e2 : α * div t = β * div u := by
    have hd : ∃ p, (keys (sorted t)).head? = some p := by
      cases e : keys (sorted t) with
      | nil =>
        unfold keys at e
        exact absurd (List.map_eq_nil_iff.mp e) (sorted_ne ht)
      | cons p r => exact ⟨p, rfl⟩
    obtain ⟨p, hp⟩ := hd
    have s1 := sgn_cf g hp
    have s2 := sgn_cf k (hk ▸ hp)
    have hpm : p ∈ keys t := by
      have : p ∈ keys (sorted t) := List.mem_of_head? hp
      exact ((sorted_perm t).map _).mem_iff.mp this
    have n1 := (g.key p).mp hpm
    have hpu : p ∈ keys u := by
      have : p ∈ keys (sorted u) := List.mem_of_head? (hk ▸ hp)
      exact ((sorted_perm u).map _).mem_iff.mp this
    have n2 := (k.key p).mp hpu
    have hh := h p
    have a1 : α * div t = (α.sign * sgn t) * (α.natAbs * share t : Nat) := by
      unfold div
      have := Int.sign_mul_natAbs α
      rw [Int.natCast_mul]
      calc α * (sgn t * share t) = (α.sign * α.natAbs) * (sgn t * share t) := by rw [this]
        _ = _ := by grind
    have a2 : β * div u = (β.sign * sgn u) * (β.natAbs * share u : Nat) := by
      unfold div
      have := Int.sign_mul_natAbs β
      rw [Int.natCast_mul]
      calc β * (sgn u * share u) = (β.sign * β.natAbs) * (sgn u * share u) := by rw [this]
        _ = _ := by grind
    have a3 : α.sign * sgn t = β.sign * sgn u := by
      have hs : (α * cf t p).sign = (β * cf u p).sign := by rw [hh]
      rw [Int.sign_mul, Int.sign_mul] at hs
      have f : ∀ x : Int, x ≠ 0 → x.sign = if x < 0 then -1 else 1 := by
        intro x hx
        split
        · exact Int.sign_eq_neg_one_of_neg (by assumption)
        · exact Int.sign_eq_one_of_pos (by omega)
      rw [f _ n1, f _ n2] at hs
      rw [s1, s2]
      exact hs
    rw [a1, a2, a3, e1]
  rw [norm_map g, norm_map k, hk]
  apply List.map_congr_left
  intro p hp
  have d1 : div t * (cf t p).fdiv (div t) = cf t p := by
    have : p ∈ keys t := ((sorted_perm t).map _).mem_iff.mp (show p ∈ keys (sorted t) from hk ▸ hp)
    obtain ⟨x, hx, rfl⟩ := List.mem_map.mp this
    rw [cf_mem g.nd hx]
    exact mul_fdiv (div_dvd hx)
  have d2 : div u * (cf u p).fdiv (div u) = cf u p := by
    have : p ∈ keys u := ((sorted_perm u).map _).mem_iff.mp hp
    obtain ⟨x, hx, rfl⟩ := List.mem_map.mp this
    rw [cf_mem k.nd hx]
    exact mul_fdiv (div_dvd hx)
  have hh := h p
  have nz : α * div t ≠ 0 := Int.mul_ne_zero hα (div_ne g ht)
  have : (α * div t) * (cf t p).fdiv (div t) = (α * div t) * (cf u p).fdiv (div u) := by
    calc (α * div t) * (cf t p).fdiv (div t) = α * (div t * (cf t p).fdiv (div t)) := by rw [Int.mul_assoc]
      _ = β * (div u * (cf u p).fdiv (div u)) := by rw [d1, d2, hh]
      _ = (α * div t) * (cf u p).fdiv (div u) := by rw [e2, Int.mul_assoc]
  rw [Int.eq_of_mul_eq_mul_left nz this]
end PM

set_option autoImplicit true
set_option autoImplicit false
/-! Forms: products. -/
namespace PM
def add3 (p q : P3) : P3 := (p.1 + q.1, p.2.1 + q.2.1, p.2.2 + q.2.2)
def row (acc : Tb) (a : P3 × Int) (u : Tb) : Tb := u.foldl (fun acc b => addT acc (add3 a.1 b.1) (a.2 * b.2)) acc
def raw (acc : Tb) (t u : Tb) : Tb := t.foldl (fun acc a => row acc a u) acc
def prod (t u : Tb) : Tb := thin (raw [] t u)
/-- the sum at q -/
def rsum (a : P3 × Int) (u : Tb) (q : P3) : Int := (u.map fun b => if q = add3 a.1 b.1 then a.2 * b.2 else 0).sum
def psum (t u : Tb) (q : P3) : Int := (t.map fun a => rsum a u q).sum
theorem cf_row (a : P3 × Int) (q : P3) : ∀ (u acc : Tb), cf (row acc a u) q = cf acc q + rsum a u q
  | [], acc => by simp [row, rsum]
  | b :: u, acc => by
    have := cf_row a q u (addT acc (add3 a.1 b.1) (a.2 * b.2))
    unfold row at this ⊢
    rw [List.foldl_cons, this, cf_addT]
    simp [rsum, Int.add_assoc]
theorem cf_raw (u : Tb) (q : P3) : ∀ (t acc : Tb), cf (raw acc t u) q = cf acc q + psum t u q
  | [], acc => by simp [raw, psum]
  | a :: t, acc => by
    have := cf_raw u q t (row acc a u)
    unfold raw at this ⊢
    rw [List.foldl_cons, this, cf_row]
    simp [psum, Int.add_assoc]
theorem nd_addT {t : Tb} (nd : (keys t).Nodup) (p : P3) (n : Int) : (keys (addT t p n)).Nodup := nd_put nd p _
theorem nd_row (a : P3 × Int) : ∀ (u : Tb) {acc : Tb}, (keys acc).Nodup → (keys (row acc a u)).Nodup
  | [], acc, h => h
  | b :: u, acc, h => nd_row a u (nd_addT h _ _)
theorem nd_raw (u : Tb) : ∀ (t : Tb) {acc : Tb}, (keys acc).Nodup → (keys (raw acc t u)).Nodup
  | [], acc, h => h
  | a :: t, acc, h => nd_raw u t (nd_row a u h)
theorem gd_prod (t u : Tb) : Gd (prod t u) := gd_thin (nd_raw u t (by simp [keys]))
theorem cf_prod (t u : Tb) (q : P3) : cf (prod t u) q = psum t u q := by
  unfold prod
  rw [cf_thin (nd_raw u t (by simp [keys])), cf_raw, cf_nil]
  simp
/-! sums -/
theorem sum_perm {l m : List Int} (h : l.Perm m) : l.sum = m.sum := by
  induction h with
  | nil => rfl
  | cons x _ ih => simp [ih]
  | swap x y l => simp; omega
  | trans _ _ a b => exact a.trans b
theorem sum_zero {l : List Int} (h : ∀ x ∈ l, x = 0) : l.sum = 0 := by
  induction l with
  | nil => rfl
  | cons x l ih =>
    rw [List.sum_cons, h x (by simp), ih fun y hy => h y (by simp [hy])]
    rfl
theorem sum_mul {α : Type} (k : Int) (f : α → Int) (l : List α) : k * (l.map f).sum = (l.map fun x => k * f x).sum := by
  induction l with
  | nil => simp
  | cons x l ih => simp [Int.mul_add, ih]
theorem sum_add {α : Type} (f g : α → Int) (l : List α) : (l.map fun x => f x + g x).sum = (l.map f).sum + (l.map g).sum := by
  induction l with
  | nil => simp
  | cons x l ih => simp [ih]; omega
theorem sum_swap {α β : Type} (f : α → β → Int) (l : List α) (m : List β) : (l.map fun a => (m.map fun b => f a b).sum).sum = (m.map fun b => (l.map fun a => f a b).sum).sum := by
  induction l with
  | nil => simp; exact (sum_zero (by simp)).symm
  | cons a l ih =>
    rw [List.map_cons, List.sum_cons, ih, ← sum_add]
    rfl
theorem add3_comm (p q : P3) : add3 p q = add3 q p := by unfold add3; rw [Int.add_comm, Int.add_comm p.2.1, Int.add_comm p.2.2]
theorem psum_comm (t u : Tb) (q : P3) : psum t u q = psum u t q := by
  unfold psum rsum
  rw [sum_swap]
  congr 1
  apply List.map_congr_left
  intro b _
  congr 1
  apply List.map_congr_left
  intro a _
  rw [add3_comm, Int.mul_comm]
theorem psum_perm {t t' : Tb} (h : t.Perm t') (u : Tb) (q : P3) : psum t u q = psum t' u q := sum_perm (h.map _)
/-- the left form with its numbers changed by a factor -/
theorem psum_scale {t : Tb} {k : Int} {f : P3 × Int → Int} (h : ∀ x ∈ t, k * f x = x.2) (u : Tb) (q : P3) : k * psum (t.map fun x => (x.1, f x)) u q = psum t u q := by
  unfold psum
  rw [List.map_map, sum_mul]
  congr 1
  apply List.map_congr_left
  intro a ha
  simp only [Function.comp]
  unfold rsum
  rw [sum_mul]
  congr 1
  apply List.map_congr_left
  intro b _
  split
  · rw [← Int.mul_assoc, h a ha]
  · simp
theorem psum_norm1 (t u : Tb) (q : P3) : div t * psum (norm t) u q = psum t u q := by
  unfold norm
  rw [psum_scale (t := sorted t) (k := div t) (f := fun x => x.2.fdiv (div t)) fun x hx => mul_fdiv (div_dvd (sorted_mem.mp hx))]
  exact psum_perm (sorted_perm t) u q
theorem psum_norm (t u : Tb) (q : P3) : (div t * div u) * psum (norm t) (norm u) q = psum t u q := by
  have h1 := psum_norm1 t (norm u) q
  have h2 := psum_norm1 u t q
  rw [psum_comm u t, psum_comm (norm u) t] at h2
  rw [← h2, ← h1]
  grind
/-! a product of forms is no nought -/
theorem psum_none {t u : Tb} {q : P3} (h : ∀ a ∈ t, ∀ b ∈ u, q ≠ add3 a.1 b.1) : psum t u q = 0 := by
  refine sum_zero fun x hx => ?_
  obtain ⟨a, ha, rfl⟩ := List.mem_map.mp hx
  refine sum_zero fun y hy => ?_
  obtain ⟨b, hb, rfl⟩ := List.mem_map.mp hy
  rw [if_neg (h a ha b hb)]
theorem rsum_none {a : P3 × Int} {u : Tb} {q : P3} (h : ∀ b ∈ u, q ≠ add3 a.1 b.1) : rsum a u q = 0 := by
  refine sum_zero fun y hy => ?_
  obtain ⟨b, hb, rfl⟩ := List.mem_map.mp hy
  rw [if_neg (h b hb)]
theorem add3_lt {p q r s : P3} (h : Lt p r ∨ p = r) (k : Lt q s ∨ q = s) (e : add3 r s = add3 p q) : p = r ∧ q = s := by
  unfold add3 at e
  simp only [Prod.mk.injEq] at e
  obtain ⟨e1, e2, e3⟩ := e
  unfold Lt at h k
  rcases h with h | rfl
  · rcases k with k | rfl <;> omega
  · rcases k with k | rfl
    · omega
    · exact ⟨rfl, rfl⟩
theorem psum_top {t u : Tb} {x y : P3 × Int} (ht : (keys (x :: t)).Pairwise fun p q => Lt q p) (hu : (keys (y :: u)).Pairwise fun p q => Lt q p) : psum (x :: t) (y :: u) (add3 x.1 y.1) = x.2 * y.2 := by
  unfold keys at ht hu
  rw [List.map_cons, List.pairwise_cons] at ht hu
  have h1 : rsum x (y :: u) (add3 x.1 y.1) = x.2 * y.2 := by
    have : rsum x u (add3 x.1 y.1) = 0 := rsum_none fun b hb e => by
      have hl := hu.1 b.1 (List.mem_map_of_mem (f := (·.1)) hb)
      have := (add3_lt (.inr rfl) (.inl hl) e).2
      rw [this] at hl
      exact Lt.irrefl _ hl
    unfold rsum at this ⊢
    rw [List.map_cons, List.sum_cons, this]
    simp
  have h2 : psum t (y :: u) (add3 x.1 y.1) = 0 := psum_none fun a ha b hb e => by
    have hl := ht.1 a.1 (List.mem_map_of_mem (f := (·.1)) ha)
    have hb2 : Lt b.1 y.1 ∨ b.1 = y.1 := by
      rcases List.mem_cons.mp hb with rfl | hb
      · exact .inr rfl
      · exact .inl (hu.1 b.1 (List.mem_map_of_mem (f := (·.1)) hb))
    have := (add3_lt (.inl hl) hb2 e).1
    rw [this] at hl
    exact Lt.irrefl _ hl
  unfold psum at h2 ⊢
  rw [List.map_cons, List.sum_cons, h1, h2]
  simp
theorem psum_ne {t u : Tb} (g : Gd t) (k : Gd u) (ht : t ≠ []) (hu : u ≠ []) : ∃ q, psum t u q ≠ 0 := by
  have s1 := sorted_keys g.nd
  have s2 := sorted_keys k.nd
  have e : ∀ q, psum (sorted t) (sorted u) q = psum t u q := fun q => by
    rw [psum_perm (sorted_perm t), psum_comm, psum_perm (sorted_perm u), psum_comm]
  cases et : sorted t with
  | nil => exact absurd et (sorted_ne ht)
  | cons x r =>
    cases eu : sorted u with
    | nil => exact absurd eu (sorted_ne hu)
    | cons y s =>
      rw [et] at s1; rw [eu] at s2
      refine ⟨add3 x.1 y.1, ?_⟩
      rw [← e, et, eu, psum_top s1 s2]
      exact Int.mul_ne_zero (g.nz x (sorted_mem.mp (by rw [et]; simp))) (k.nz y (sorted_mem.mp (by rw [eu]; simp)))
theorem prod_ne {t u : Tb} (g : Gd t) (k : Gd u) (ht : t ≠ []) (hu : u ≠ []) : prod t u ≠ [] := by
  obtain ⟨q, hq⟩ := psum_ne g k ht hu
  intro z
  have := cf_prod t u q
  rw [z, cf_nil] at this
  exact hq this.symm
/-- the product of what is kept is kept as the product -/
theorem norm_prod {t u : Tb} (g : Gd t) (k : Gd u) (ht : t ≠ []) (hu : u ≠ []) : norm (prod (norm t) (norm u)) = norm (prod t u) := by
  refine norm_eq (gd_prod _ _) (gd_prod _ _) (prod_ne (gd_norm g) (gd_norm k) (norm_ne ht) (norm_ne hu)) (prod_ne g k ht hu) (α := div t * div u) (β := 1) (Int.mul_ne_zero (div_ne g ht) (div_ne k hu)) (by decide) fun p => ?_
  rw [cf_prod, cf_prod, psum_norm, Int.one_mul]
theorem norm_prod_comm {t u : Tb} (g : Gd t) (k : Gd u) (ht : t ≠ []) (hu : u ≠ []) : norm (prod u t) = norm (prod t u) := by
  refine norm_eq (gd_prod _ _) (gd_prod _ _) (prod_ne k g hu ht) (prod_ne g k ht hu) (α := 1) (β := 1) (by decide) (by decide) fun p => ?_
  rw [cf_prod, cf_prod, psum_comm]
/-! ### degrees, bounds -/
structure Ok (d : Int) (B : Nat) (t : Tb) : Prop where
  gd : Gd t
  ne : t ≠ []
  hom : ∀ p ∈ keys t, 0 ≤ p.1 ∧ 0 ≤ p.2.1 ∧ 0 ≤ p.2.2 ∧ p.1 + p.2.1 + p.2.2 = d
  bd : ∀ x ∈ t, x.2.natAbs ≤ B
theorem ok_norm {d : Int} {B : Nat} {t : Tb} (o : Ok d B t) : Ok d B (norm t) := by
  refine ⟨gd_norm o.gd, norm_ne o.ne, fun p hp => o.hom p ((keys_norm p).mp hp), fun y hy => ?_⟩
  obtain ⟨x, hx, rfl, _⟩ := norm_mem hy
  exact Nat.le_trans (fdiv_abs (div_dvd hx)) (o.bd x hx)
theorem sum_abs {l : List Int} {B : Nat} (h : ∀ x ∈ l, x.natAbs ≤ B) : l.sum.natAbs ≤ l.length * B := by
  induction l with
  | nil => simp
  | cons x l ih =>
    have h1 := h x (by simp)
    have h2 := ih fun y hy => h y (by simp [hy])
    rw [List.sum_cons, List.length_cons, Nat.succ_mul]
    have := Int.natAbs_add_le x l.sum
    omega
theorem psum_abs {t u : Tb} {B C : Nat} (h : ∀ x ∈ t, x.2.natAbs ≤ B) (k : ∀ x ∈ u, x.2.natAbs ≤ C) (q : P3) : (psum t u q).natAbs ≤ t.length * (u.length * (B * C)) := by
  have : ∀ z ∈ t.map fun a => rsum a u q, z.natAbs ≤ u.length * (B * C) := by
    intro z hz
    obtain ⟨a, ha, rfl⟩ := List.mem_map.mp hz
    have : ∀ w ∈ u.map fun b => if q = add3 a.1 b.1 then a.2 * b.2 else 0, w.natAbs ≤ B * C := by
      intro w hw
      obtain ⟨b, hb, rfl⟩ := List.mem_map.mp hw
      split
      · rw [Int.natAbs_mul]
        exact Nat.mul_le_mul (h a ha) (k b hb)
      · simp
    have := sum_abs this
    rw [List.length_map] at this
    exact this
  have := sum_abs this
  rw [List.length_map] at this
  exact this
theorem psum_key {t u : Tb} {q : P3} (h : psum t u q ≠ 0) : ∃ a ∈ t, ∃ b ∈ u, q = add3 a.1 b.1 := by
  by_cases z : ∃ a ∈ t, ∃ b ∈ u, q = add3 a.1 b.1
  · exact z
  · refine absurd (psum_none fun a ha b hb e => z ⟨a, ha, b, hb, e⟩) h
theorem ok_prod {d e : Int} {B C : Nat} {t u : Tb} (o : Ok d B t) (r : Ok e C u) : Ok (d + e) (t.length * (u.length * (B * C))) (prod t u) := by
  refine ⟨gd_prod t u, prod_ne o.gd r.gd o.ne r.ne, fun p hp => ?_, fun x hx => ?_⟩
  · have := ((gd_prod t u).key p).mp hp
    rw [cf_prod] at this
    obtain ⟨a, ha, b, hb, rfl⟩ := psum_key this
    have h1 := o.hom a.1 (List.mem_map_of_mem (f := (·.1)) ha)
    have h2 := r.hom b.1 (List.mem_map_of_mem (f := (·.1)) hb)
    unfold add3
    dsimp only
    omega
  · rw [← cf_mem (gd_prod t u).nd hx, cf_prod]
    exact psum_abs o.bd r.bd x.1
/-! at most ten terms -/
theorem len_sub {l m : List P3} (nd : l.Nodup) (h : ∀ p ∈ l, p ∈ m) : l.length ≤ m.length := by
  induction l generalizing m with
  | nil => simp
  | cons x l ih =>
    rw [List.nodup_cons] at nd
    have hx := h x (by simp)
    have := ih (m := m.erase x) nd.2 fun p hp => by
      have : p ≠ x := fun z => nd.1 (z ▸ hp)
      exact (List.mem_erase_of_ne this).mpr (h p (by simp [hp]))
    rw [List.length_erase_of_mem hx] at this
    have : 0 < m.length := List.length_pos_of_mem hx
    rw [List.length_cons]
    omega
def box : List P3 := [(3,0,0),(2,1,0),(2,0,1),(1,2,0),(1,1,1),(1,0,2),(0,3,0),(0,2,1),(0,1,2),(0,0,3)]
def box2 : List P3 := [(2,0,0),(1,1,0),(1,0,1),(0,2,0),(0,1,1),(0,0,2)]
def box1 : List P3 := [(1,0,0),(0,1,0),(0,0,1)]
theorem Ok.len {d : Int} {B : Nat} {t : Tb} (o : Ok d B t) (h1 : 1 ≤ d) (h3 : d ≤ 3) : t.length ≤ 10 := by
  have e : t.length = (keys t).length := by simp [keys]
  rw [e]
  have hd : d = 1 ∨ d = 2 ∨ d = 3 := by omega
  have sub : ∀ m : List P3, (∀ a b c : Int, 0 ≤ a → 0 ≤ b → 0 ≤ c → a + b + c = d → (a, b, c) ∈ m) → m.length ≤ 10 → (keys t).length ≤ 10 := by
    intro m hm hl
    refine Nat.le_trans (len_sub (m := m) o.gd.nd fun p hp => ?_) hl
    obtain ⟨a, b, c⟩ := p
    have := o.hom _ hp
    exact hm a b c this.1 this.2.1 this.2.2.1 this.2.2.2
  rcases hd with rfl | rfl | rfl
  · refine sub box1 (fun a b c ha hb hc e => ?_) (by decide)
    have : (a = 1 ∧ b = 0 ∧ c = 0) ∨ (a = 0 ∧ b = 1 ∧ c = 0) ∨ (a = 0 ∧ b = 0 ∧ c = 1) := by omega
    rcases this with ⟨rfl, rfl, rfl⟩ | ⟨rfl, rfl, rfl⟩ | ⟨rfl, rfl, rfl⟩ <;> decide
  · refine sub box2 (fun a b c ha hb hc e => ?_) (by decide)
    have : (a = 2 ∧ b = 0 ∧ c = 0) ∨ (a = 1 ∧ b = 1 ∧ c = 0) ∨ (a = 1 ∧ b = 0 ∧ c = 1) ∨ (a = 0 ∧ b = 2 ∧ c = 0) ∨ (a = 0 ∧ b = 1 ∧ c = 1) ∨ (a = 0 ∧ b = 0 ∧ c = 2) := by omega
    rcases this with ⟨rfl, rfl, rfl⟩ | ⟨rfl, rfl, rfl⟩ | ⟨rfl, rfl, rfl⟩ | ⟨rfl, rfl, rfl⟩ | ⟨rfl, rfl, rfl⟩ | ⟨rfl, rfl, rfl⟩ <;> decide
  · refine sub box (fun a b c ha hb hc e => ?_) (by decide)
    obtain rfl : c = 3 - a - b := by omega
    have h1 : a = 0 ∨ a = 1 ∨ a = 2 ∨ a = 3 := by omega
    have h2 : b = 0 ∨ b = 1 ∨ b = 2 ∨ b = 3 := by omega
    rcases h1 with rfl | rfl | rfl | rfl <;> rcases h2 with rfl | rfl | rfl | rfl <;> first | (exfalso; omega) | decide
end PM

set_option autoImplicit true
set_option autoImplicit false
/-! Points, lines, worths. -/
namespace PM
def gcd3 (w : P3) : Nat := Nat.gcd (Nat.gcd w.1.natAbs w.2.1.natAbs) w.2.2.natAbs
def lead (w : P3) : Int := if w.1 ≠ 0 then w.1 else if w.2.1 ≠ 0 then w.2.1 else w.2.2
def pdiv (w : P3) : Int := if lead w < 0 then 0 - (gcd3 w : Int) else gcd3 w
def pnorm (w : P3) : P3 := (w.1.fdiv (pdiv w), w.2.1.fdiv (pdiv w), w.2.2.fdiv (pdiv w))
structure Pt (p : P3) : Prop where
  one : gcd3 p = 1
  pos : 0 < lead p
def smul (k : Int) (p : P3) : P3 := (k * p.1, k * p.2.1, k * p.2.2)
def dot (p q : P3) : Int := p.1 * q.1 + p.2.1 * q.2.1 + p.2.2 * q.2.2
def cross (p q : P3) : P3 := (p.2.1 * q.2.2 - p.2.2 * q.2.1, p.2.2 * q.1 - p.1 * q.2.2, p.1 * q.2.1 - p.2.1 * q.1)
theorem gcd3_smul (k : Int) (p : P3) : gcd3 (smul k p) = k.natAbs * gcd3 p := by
  unfold gcd3 smul
  simp only [Int.natAbs_mul, Nat.gcd_mul_left]
theorem gcd3_dvd (w : P3) : (gcd3 w : Int) ∣ w.1 ∧ (gcd3 w : Int) ∣ w.2.1 ∧ (gcd3 w : Int) ∣ w.2.2 := by
  unfold gcd3
  refine ⟨?_, ?_, ?_⟩
  · exact Int.ofNat_dvd_left.mpr (Nat.dvd_trans (Nat.gcd_dvd_left _ _) (Nat.gcd_dvd_left _ _))
  · exact Int.ofNat_dvd_left.mpr (Nat.dvd_trans (Nat.gcd_dvd_left _ _) (Nat.gcd_dvd_right _ _))
  · exact Int.ofNat_dvd_left.mpr (Nat.gcd_dvd_right _ _)
theorem gcd3_pos {w : P3} (h : w ≠ (0, 0, 0)) : 0 < gcd3 w := by
  rcases Nat.eq_zero_or_pos (gcd3 w) with z | z
  · unfold gcd3 at z
    rw [Nat.gcd_eq_zero_iff, Nat.gcd_eq_zero_iff] at z
    exact absurd (P3.eq (q := (0, 0, 0)) (Int.natAbs_eq_zero.mp z.1.1) (Int.natAbs_eq_zero.mp z.1.2) (Int.natAbs_eq_zero.mp z.2)) h
  · exact z
theorem pdiv_abs (w : P3) : (pdiv w).natAbs = gcd3 w := by
  unfold pdiv; split <;> omega
theorem pdiv_ne {w : P3} (h : w ≠ (0, 0, 0)) : pdiv w ≠ 0 := by
  have := gcd3_pos h
  have := pdiv_abs w
  omega
theorem pdiv_dvd (w : P3) : pdiv w ∣ w.1 ∧ pdiv w ∣ w.2.1 ∧ pdiv w ∣ w.2.2 := by
  have h := gcd3_dvd w
  have e : ∀ n : Int, pdiv w ∣ n ↔ (gcd3 w : Int) ∣ n := by
    intro n
    unfold pdiv
    split
    · rw [Int.zero_sub, Int.neg_dvd]
    · rfl
  rw [e, e, e]
  exact h
theorem smul_pnorm (w : P3) : smul (pdiv w) (pnorm w) = w := by
  have h := pdiv_dvd w
  exact P3.eq (mul_fdiv h.1) (mul_fdiv h.2.1) (mul_fdiv h.2.2)
theorem lead_smul {k : Int} (hk : k ≠ 0) (p : P3) : lead (smul k p) = k * lead p := by
  unfold lead smul
  dsimp only
  have z : ∀ n : Int, k * n = 0 ↔ n = 0 := fun n => by
    rw [Int.mul_eq_zero]; simp [hk]
  simp only [ne_eq, z]
  split
  · rfl
  · split <;> rfl
theorem lead_ne {w : P3} (h : w ≠ (0, 0, 0)) : lead w ≠ 0 := by
  unfold lead
  split
  · assumption
  · split
    · assumption
    · rename_i a b
      intro z
      exact h (P3.eq (q := (0, 0, 0)) (by simpa using a) (by simpa using b) z)
theorem pt_norm {w : P3} (h : w ≠ (0, 0, 0)) : Pt (pnorm w) := by
  have hg := gcd3_pos h
  have hd := pdiv_ne h
  have e := smul_pnorm w
  refine ⟨?_, ?_⟩
  · have := gcd3_smul (pdiv w) (pnorm w)
    rw [e, pdiv_abs] at this
    exact Nat.eq_of_mul_eq_mul_left hg (by omega)
  · have hl := lead_smul hd (pnorm w)
    rw [e] at hl
    have hn := lead_ne h
    by_cases z : lead w < 0
    · have hp : pdiv w < 0 := by unfold pdiv; rw [if_pos z]; omega
      rw [hl] at z
      rcases Int.lt_trichotomy (lead (pnorm w)) 0 with q | q | q
      · have := Int.mul_pos_of_neg_of_neg hp q; omega
      · rw [q] at z; simp at z
      · exact q
    · have hp : 0 < pdiv w := by unfold pdiv; rw [if_neg z]; omega
      have z2 : 0 < lead w := by omega
      rw [hl] at z2
      exact Int.pos_of_mul_pos_right z2 hp |> fun h => h
theorem pt_ne {p : P3} (h : Pt p) : p ≠ (0, 0, 0) := by
  intro z
  have := h.pos
  rw [z] at this
  exact absurd this (by decide)
/-- two points in one ratio are one -/
theorem pt_eq {p q : P3} (hp : Pt p) (hq : Pt q) (h : cross p q = (0, 0, 0)) : p = q := by
  obtain ⟨a, b, c⟩ := p
  obtain ⟨d, e, f⟩ := q
  unfold cross at h
  simp only [Prod.mk.injEq] at h
  obtain ⟨h1, h2, h3⟩ := h
  have k1 : b * f = c * e := by omega
  have k2 : c * d = a * f := by omega
  have k3 : a * e = b * d := by omega
  have g1 := gcd3_smul d (a, b, c)
  have g2 := gcd3_smul a (d, e, f)
  have s1 : smul d (a, b, c) = smul a (d, e, f) := P3.eq (by simp [smul, Int.mul_comm]) (by simp only [smul]; rw [k3, Int.mul_comm]) (by simp only [smul]; rw [← k2, Int.mul_comm])
  rw [s1, g2, hp.one, hq.one] at g1
  have g3 := gcd3_smul e (a, b, c)
  have g4 := gcd3_smul b (d, e, f)
  have s2 : smul e (a, b, c) = smul b (d, e, f) := P3.eq (by simp only [smul]; rw [← k3, Int.mul_comm]) (by simp [smul, Int.mul_comm]) (by simp only [smul]; rw [k1, Int.mul_comm])
  rw [s2, g4, hp.one, hq.one] at g3
  have g5 := gcd3_smul f (a, b, c)
  have g6 := gcd3_smul c (d, e, f)
  have s3 : smul f (a, b, c) = smul c (d, e, f) := P3.eq (by simp only [smul]; rw [k2, Int.mul_comm]) (by simp only [smul]; rw [← k1, Int.mul_comm]) (by simp [smul, Int.mul_comm])
  rw [s3, g6, hp.one, hq.one] at g5
  have p1 := hp.pos
  have p2 := hq.pos
  unfold lead at p1 p2
  dsimp only at p1 p2
  by_cases z : a = 0
  · have z2 : d = 0 := by omega
    subst z z2
    by_cases y : b = 0
    · have y2 : e = 0 := by omega
      subst y y2
      simp at p1 p2
      have : c = f := by omega
      rw [this]
    · have y2 : e ≠ 0 := by omega
      simp [y, y2] at p1 p2
      have : b = e := by omega
      subst this
      have : f = c := Int.eq_of_mul_eq_mul_left y (by rw [k1, Int.mul_comm])
      rw [this]
  · have z2 : d ≠ 0 := by omega
    simp [z, z2] at p1 p2
    have : a = d := by omega
    subst this
    have : e = b := Int.eq_of_mul_eq_mul_left z (by rw [k3, Int.mul_comm])
    have : f = c := Int.eq_of_mul_eq_mul_left z (by rw [← k2, Int.mul_comm])
    subst_vars
    rfl
/-! worths -/
def mon (p q : P3) : Int := p.1 ^ q.1.toNat * p.2.1 ^ q.2.1.toNat * p.2.2 ^ q.2.2.toNat
def worth (t : Tb) (p : P3) : Int := (t.map fun x => x.2 * mon p x.1).sum
theorem worth_thin (p : P3) : ∀ t : Tb, worth (thin t) p = worth t p
  | [] => rfl
  | x :: t => by
    have ih := worth_thin p t
    unfold thin worth at *
    rw [List.filter_cons]
    split
    · rw [List.map_cons, List.sum_cons, ih, List.map_cons, List.sum_cons]
    · rename_i h
      have : x.2 = 0 := by simpa using h
      rw [ih, List.map_cons, List.sum_cons, this]
      omega
theorem worth_norm (t : Tb) (p : P3) : div t * worth (norm t) p = worth t p := by
  unfold worth norm
  rw [List.map_map, sum_mul]
  have e : ((sorted t).map fun x => x.2 * mon p x.1).sum = (t.map fun x => x.2 * mon p x.1).sum := sum_perm ((sorted_perm t).map _)
  rw [← e]
  congr 1
  apply List.map_congr_left
  intro x hx
  have h := mul_fdiv (div_dvd (sorted_mem.mp hx))
  simp only [Function.comp]
  rw [← Int.mul_assoc, h]
/-! lines -/
def lt3 (w : P3) : Tb := [((1, 0, 0), w.1), ((0, 1, 0), w.2.1), ((0, 0, 1), w.2.2)]
def lt (w : P3) : Tb := thin (lt3 w)
theorem nd_lt3 (w : P3) : (keys (lt3 w)).Nodup := by
  have : keys (lt3 w) = [(1, 0, 0), (0, 1, 0), (0, 0, 1)] := rfl
  rw [this]; decide
theorem cf_lt (w r : P3) : cf (lt w) r = if r = (1, 0, 0) then w.1 else if r = (0, 1, 0) then w.2.1 else if r = (0, 0, 1) then w.2.2 else 0 := by
  unfold lt
  rw [cf_thin (nd_lt3 w)]
  unfold lt3
  rw [cf_cons, cf_cons, cf_cons, cf_nil]
  simp only [eq_comm]
theorem worth_lt (w p : P3) : worth (lt w) p = dot w p := by
  unfold lt
  rw [worth_thin]
  simp [worth, lt3, mon, dot, Int.pow_succ, -Int.pow_one]
  omega
theorem ok_lt {w : P3} {B : Nat} (h : w ≠ (0, 0, 0)) (h1 : w.1.natAbs ≤ B) (h2 : w.2.1.natAbs ≤ B) (h3 : w.2.2.natAbs ≤ B) : Ok 1 B (lt w) := by
  have hm : ∀ x ∈ lt w, x ∈ lt3 w := fun x hx => (List.mem_filter.mp hx).1
  refine ⟨gd_thin (nd_lt3 w), fun z => ?_, fun q hq => ?_, fun x hx => ?_⟩
  · have c1 := cf_lt w (1, 0, 0)
    have c2 := cf_lt w (0, 1, 0)
    have c3 := cf_lt w (0, 0, 1)
    rw [z] at c1 c2 c3
    simp [cf_nil] at c1 c2 c3
    exact h (P3.eq (q := (0, 0, 0)) c1.symm c2.symm c3.symm)
  · obtain ⟨x, hx, rfl⟩ := List.mem_map.mp hq
    have := hm x hx
    simp [lt3] at this
    rcases this with rfl | rfl | rfl <;> simp
  · have := hm x hx
    simp [lt3] at this
    rcases this with rfl | rfl | rfl <;> assumption
theorem dot_cross1 (p q : P3) : dot (cross p q) p = 0 := by
  unfold dot cross; grind
theorem dot_cross2 (p q : P3) : dot (cross p q) q = 0 := by
  unfold dot cross; grind
theorem cross_ne {p q : P3} (hp : Pt p) (hq : Pt q) (h : p ≠ q) : cross p q ≠ (0, 0, 0) := fun z => h (pt_eq hp hq z)
theorem norm_lt_swap {p q : P3} (h : cross p q ≠ (0, 0, 0)) : norm (lt (cross q p)) = norm (lt (cross p q)) := by
  have e : cross q p = (-(cross p q).1, -(cross p q).2.1, -(cross p q).2.2) := by
    unfold cross; simp only [Prod.mk.injEq]; grind
  have h2 : cross q p ≠ (0, 0, 0) := by
    intro z
    rw [e] at z
    simp only [Prod.mk.injEq] at z
    exact h (P3.eq (q := (0, 0, 0)) (by simpa using z.1) (by simpa using z.2.1) (by simpa using z.2.2))
  have o1 := ok_lt h (B := (cross p q).1.natAbs + (cross p q).2.1.natAbs + (cross p q).2.2.natAbs) (by omega) (by omega) (by omega)
  have o2 := ok_lt h2 (B := (cross q p).1.natAbs + (cross q p).2.1.natAbs + (cross q p).2.2.natAbs) (by omega) (by omega) (by omega)
  refine norm_eq o2.gd o1.gd o2.ne o1.ne (α := -1) (β := 1) (by decide) (by decide) fun r => ?_
  rw [cf_lt, cf_lt, e]
  dsimp only
  split
  · omega
  · split
    · omega
    · split <;> omega
theorem line_through {w p : P3} (h : w ≠ (0, 0, 0)) (hd : dot w p = 0) : worth (norm (lt w)) p = 0 := by
  have o := ok_lt h (B := w.1.natAbs + w.2.1.natAbs + w.2.2.natAbs) (by omega) (by omega) (by omega)
  have e := worth_norm (lt w) p
  rw [worth_lt, hd] at e
  rcases Int.mul_eq_zero.mp e with z | z
  · exact absurd z (div_ne o.gd o.ne)
  · exact z
end PM

set_option autoImplicit true
set_option autoImplicit false
/-! Worths of multiples; points told. -/
namespace PM
theorem mon_smul (k : Int) (p q : P3) : mon (smul k p) q = k ^ (q.1.toNat + q.2.1.toNat + q.2.2.toNat) * mon p q := by
  unfold mon smul
  dsimp only
  rw [Int.mul_pow, Int.mul_pow, Int.mul_pow, Int.pow_add, Int.pow_add]
  grind
theorem worth_smul {d : Int} {B : Nat} {t : Tb} (o : Ok d B t) (k : Int) (p : P3) : worth t (smul k p) = k ^ d.toNat * worth t p := by
  unfold worth
  rw [sum_mul]
  congr 1
  apply List.map_congr_left
  intro x hx
  have h := o.hom x.1 (List.mem_map_of_mem (f := (·.1)) hx)
  have e : x.1.1.toNat + x.1.2.1.toNat + x.1.2.2.toNat = d.toNat := by omega
  rw [mon_smul, e]
  grind
theorem worth_zero {d : Int} {B : Nat} {t : Tb} (o : Ok d B t) (h : 1 ≤ d) : worth t (0, 0, 0) = 0 := by
  have e : ((0, 0, 0) : P3) = smul 0 (0, 0, 0) := rfl
  rw [e, worth_smul o]
  have : d.toNat ≠ 0 := by omega
  rw [Int.zero_pow this, Int.zero_mul]
theorem worth_norm_zero {d : Int} {B : Nat} {t : Tb} (o : Ok d B t) (p : P3) : worth (norm t) p = 0 ↔ worth t p = 0 := by
  rw [← worth_norm t p, Int.mul_eq_zero]
  exact ⟨.inr, fun h => h.resolve_left (div_ne o.gd o.ne)⟩
theorem worth_pnorm {d : Int} {B : Nat} {t : Tb} (o : Ok d B t) {w : P3} (h : w ≠ (0, 0, 0)) : worth t (pnorm w) = 0 ↔ worth t w = 0 := by
  have e := worth_smul o (pdiv w) (pnorm w)
  rw [smul_pnorm] at e
  rw [e, Int.mul_eq_zero]
  refine ⟨.inr, fun h2 => h2.resolve_left ?_⟩
  exact Int.pow_ne_zero (pdiv_ne h)
theorem pnorm_pt {p : P3} (h : Pt p) : pnorm p = p := by
  have e : pdiv p = 1 := by
    unfold pdiv
    rw [h.one, if_neg (by have := h.pos; omega)]
    rfl
  unfold pnorm
  rw [e]
  simp
theorem pt_iff (p : P3) : (p ≠ (0, 0, 0) ∧ pnorm p = p) ↔ Pt p := by
  constructor
  · intro ⟨h1, h2⟩
    have := pt_norm h1
    rwa [h2] at this
  · intro h
    exact ⟨pt_ne h, pnorm_pt h⟩
theorem gcd3_abs_smul {k : Int} {w : P3} : pnorm (smul k w) = pnorm (smul k w) := rfl
theorem lead_pos_or (w : P3) : lead w = 0 ↔ w = (0, 0, 0) := by
  constructor
  · intro h
    by_cases z : w = (0, 0, 0)
    · exact z
    · exact absurd h (lead_ne z)
  · intro h; rw [h]; rfl
/-- a multiple's point is the point -/
theorem pnorm_smul {k : Int} (hk : k ≠ 0) {w : P3} (h : w ≠ (0, 0, 0)) : pnorm (smul k w) = pnorm w := by
  have hs : smul k w ≠ (0, 0, 0) := by
    intro z
    unfold smul at z
    simp only [Prod.mk.injEq, Int.mul_eq_zero, hk, false_or] at z
    exact h (P3.eq (q := (0, 0, 0)) z.1 z.2.1 z.2.2)
  refine pt_eq (pt_norm hs) (pt_norm h) ?_
  have e1 := smul_pnorm (smul k w)
  have e2 := smul_pnorm w
  have d1 := pdiv_ne hs
  have d2 := pdiv_ne h
  generalize pnorm (smul k w) = p at *
  generalize pnorm w = q at *
  generalize pdiv (smul k w) = m at *
  generalize pdiv w = n at *
  have hc : ∀ a b : P3, ∀ m n : Int, cross (smul m a) (smul n b) = smul (m * n) (cross a b) := by
    intro a b m n
    unfold cross smul
    dsimp only
    refine P3.eq ?_ ?_ ?_ <;> dsimp only <;> grind
  have hz : cross (smul k w) w = (0, 0, 0) := by
    unfold cross smul
    dsimp only
    refine P3.eq ?_ ?_ ?_ <;> dsimp only <;> grind
  have h3 := hc p q m n
  rw [e1, e2, hz] at h3
  have hmn : m * n ≠ 0 := Int.mul_ne_zero d1 d2
  unfold smul at h3
  simp only [Prod.mk.injEq] at h3
  obtain ⟨a, b, c⟩ := h3
  have z : ∀ {x : Int}, 0 = m * n * x → x = 0 := fun {x} e => (Int.mul_eq_zero.mp e.symm).resolve_left hmn
  exact P3.eq (q := (0, 0, 0)) (z a) (z b) (z c)
end PM

set_option autoImplicit true
set_option autoImplicit false
/-! Worths of sums and products; a form is told by its worths. -/
namespace PM
theorem worth_nil (q : P3) : worth [] q = 0 := rfl
theorem worth_cons (x : P3 × Int) (t : Tb) (q : P3) : worth (x :: t) q = x.2 * mon q x.1 + worth t q := by
  unfold worth
  rw [List.map_cons, List.sum_cons]
theorem worth_append (t u : Tb) (q : P3) : worth (t ++ u) q = worth t q + worth u q := by
  unfold worth
  rw [List.map_append, List.sum_append]
theorem put_same (q : P3) : ∀ {t : Tb}, (keys t).Nodup → ∀ {p : P3} (n : Int), p ∈ keys t → worth (t.map fun x => if x.1 = p then (x.1, n) else x) q = worth t q + (n - cf t p) * mon q p
  | [], _, p, n, h => by simp [keys] at h
  | x :: t, nd, p, n, h => by
    have nd2 := nd
    unfold keys at nd
    rw [List.map_cons, List.nodup_cons] at nd
    rw [List.map_cons, worth_cons, worth_cons, cf_cons]
    by_cases z : x.1 = p
    · subst z
      have e : (t.map fun y => if y.1 = x.1 then (y.1, n) else y) = t := by
        have : ∀ y ∈ t, (if y.1 = x.1 then (y.1, n) else y) = y := by
          intro y hy
          rw [if_neg]
          intro z
          exact nd.1 (z ▸ List.mem_map_of_mem (f := (·.1)) hy)
        rw [List.map_congr_left this]
        simp
      rw [e, if_pos rfl, if_pos rfl]
      grind
    · have hp : p ∈ keys t := by
        unfold keys at h ⊢
        rw [List.map_cons, List.mem_cons] at h
        rcases h with h | h
        · exact absurd h.symm z
        · exact h
      rw [put_same q nd.2 n hp, if_neg z, if_neg z]
      omega
theorem worth_put {t : Tb} (nd : (keys t).Nodup) (p : P3) (n : Int) (q : P3) : worth (put t p n) q = worth t q + (n - cf t p) * mon q p := by
  unfold put
  split
  · rename_i h
    exact put_same q nd n (any_keys.mp h)
  · rename_i h
    have hz : cf t p = 0 := by
      have : val t p = none := val_none.mpr fun z => h (any_keys.mpr z)
      unfold cf
      rw [this]; rfl
    rw [worth_append, worth_cons, worth_nil, hz]
    simp
theorem worth_addT {t : Tb} (nd : (keys t).Nodup) (p : P3) (n : Int) (q : P3) : worth (addT t p n) q = worth t q + n * mon q p := by
  unfold addT
  rw [worth_put nd]
  have : cf t p + n - cf t p = n := by omega
  rw [this]
/-- exponents that are no less than nought -/
def Nn (t : Tb) : Prop := ∀ p ∈ keys t, 0 ≤ p.1 ∧ 0 ≤ p.2.1 ∧ 0 ≤ p.2.2
theorem Nn.cons {x : P3 × Int} {t : Tb} (h : Nn (x :: t)) : (0 ≤ x.1.1 ∧ 0 ≤ x.1.2.1 ∧ 0 ≤ x.1.2.2) ∧ Nn t :=
  ⟨h x.1 (by simp [keys]), fun p hp => h p (by unfold keys at hp ⊢; simp at hp ⊢; exact .inr hp)⟩
theorem mon_add {p a b : P3} (ha : 0 ≤ a.1 ∧ 0 ≤ a.2.1 ∧ 0 ≤ a.2.2) (hb : 0 ≤ b.1 ∧ 0 ≤ b.2.1 ∧ 0 ≤ b.2.2) : mon p (add3 a b) = mon p a * mon p b := by
  unfold mon add3
  dsimp only
  rw [Int.toNat_add ha.1 hb.1, Int.toNat_add ha.2.1 hb.2.1, Int.toNat_add ha.2.2 hb.2.2, Int.pow_add, Int.pow_add, Int.pow_add]
  grind
theorem worth_row (a : P3 × Int) (q : P3) (ha : 0 ≤ a.1.1 ∧ 0 ≤ a.1.2.1 ∧ 0 ≤ a.1.2.2) : ∀ (u acc : Tb), (keys acc).Nodup → Nn u → worth (row acc a u) q = worth acc q + a.2 * mon q a.1 * worth u q
  | [], acc, _, _ => by
    show worth acc q = _
    rw [worth_nil]; omega
  | b :: u, acc, nd, hu => by
    have h := hu.cons
    show worth (row (addT acc (add3 a.1 b.1) (a.2 * b.2)) a u) q = _
    rw [worth_row a q ha u _ (nd_addT nd _ _) h.2, worth_addT nd, worth_cons, mon_add ha h.1]
    grind
theorem worth_raw (u : Tb) (q : P3) (hu : Nn u) : ∀ (t acc : Tb), (keys acc).Nodup → Nn t → worth (raw acc t u) q = worth acc q + worth t q * worth u q
  | [], acc, _, _ => by
    show worth acc q = _
    rw [worth_nil]; omega
  | a :: t, acc, nd, ht => by
    have h := ht.cons
    show worth (raw (row acc a u) t u) q = _
    rw [worth_raw u q hu t _ (nd_row a u nd) h.2, worth_row a q h.1 u acc nd hu, worth_cons]
    grind
theorem worth_prod {t u : Tb} (ht : Nn t) (hu : Nn u) (q : P3) : worth (prod t u) q = worth t q * worth u q := by
  unfold prod
  rw [worth_thin, worth_raw u q hu t [] (by simp [keys]) ht, worth_nil]
  omega
/-! told by its worths -/
theorem worth_box (q : P3) {l : List P3} (hl : l.Nodup) : ∀ {t : Tb}, (keys t).Nodup → (∀ p ∈ keys t, p ∈ l) → worth t q = (l.map fun m => cf t m * mon q m).sum
  | [], _, _ => by
    rw [worth_nil]
    symm
    refine sum_zero fun x hx => ?_
    obtain ⟨m, _, rfl⟩ := List.mem_map.mp hx
    rw [cf_nil]; omega
  | x :: t, nd, hk => by
    have nd2 := nd
    unfold keys at nd2
    rw [List.map_cons, List.nodup_cons] at nd2
    have hz : cf t x.1 = 0 := by
      have : val t x.1 = none := val_none.mpr nd2.1
      unfold cf
      rw [this]; rfl
    have ih := worth_box q hl nd2.2 (fun p hp => hk p (by unfold keys at hp ⊢; simp at hp ⊢; exact .inr hp))
    rw [worth_cons, ih]
    have hx : x.1 ∈ l := hk x.1 (by simp [keys])
    have key : ∀ l : List P3, l.Nodup → (l.map fun m => cf (x :: t) m * mon q m).sum = (if x.1 ∈ l then x.2 * mon q x.1 else 0) + (l.map fun m => cf t m * mon q m).sum := by
      intro l
      induction l with
      | nil => intro _; simp
      | cons m l ih =>
        intro hl
        rw [List.nodup_cons] at hl
        rw [List.map_cons, List.sum_cons, ih hl.2, List.map_cons, List.sum_cons, cf_cons]
        by_cases z : x.1 = m
        · subst z
          rw [if_pos rfl, if_neg hl.1, if_pos (by simp), hz]
          omega
        · rw [if_neg z]
          by_cases y : x.1 ∈ l
          · rw [if_pos y, if_pos (by simp [y])]; omega
          · rw [if_neg y, if_neg (by simp [y, z])]; omega
    rw [key l hl, if_pos hx]
def pwL (d : Int) : List P3 := if d = 0 then [(0, 0, 0)] else if d = 1 then box1 else if d = 2 then box2 else box
theorem pwL_nd (d : Int) : (pwL d).Nodup := by
  unfold pwL
  split
  · decide
  · split
    · decide
    · split <;> decide
theorem pwL_mem {d : Int} (h0 : 0 ≤ d) (h3 : d ≤ 3) {p : P3} (h : 0 ≤ p.1 ∧ 0 ≤ p.2.1 ∧ 0 ≤ p.2.2 ∧ p.1 + p.2.1 + p.2.2 = d) : p ∈ pwL d := by
  obtain ⟨a, b, c⟩ := p
  dsimp only at h
  have hd : d = 0 ∨ d = 1 ∨ d = 2 ∨ d = 3 := by omega
  have ha : a = 0 ∨ a = 1 ∨ a = 2 ∨ a = 3 := by omega
  have hb : b = 0 ∨ b = 1 ∨ b = 2 ∨ b = 3 := by omega
  have hc : c = d - a - b := by omega
  subst hc
  rcases hd with rfl | rfl | rfl | rfl <;> rcases ha with rfl | rfl | rfl | rfl <;> rcases hb with rfl | rfl | rfl | rfl <;> first | omega | decide
/-- one degree, not above three -/
structure Hm (d : Int) (t : Tb) : Prop where
  nd : (keys t).Nodup
  hom : ∀ p ∈ keys t, 0 ≤ p.1 ∧ 0 ≤ p.2.1 ∧ 0 ≤ p.2.2 ∧ p.1 + p.2.1 + p.2.2 = d
theorem Ok.hm {d : Int} {B : Nat} {t : Tb} (o : Ok d B t) : Hm d t := ⟨o.gd.nd, o.hom⟩
theorem Hm.nn {d : Int} {t : Tb} (h : Hm d t) : Nn t := fun p hp => ⟨(h.hom p hp).1, (h.hom p hp).2.1, (h.hom p hp).2.2.1⟩
theorem Hm.len {d : Int} {t : Tb} (h : Hm d t) (h0 : 0 ≤ d) (h3 : d ≤ 3) : t.length ≤ 10 := by
  have e : t.length = (keys t).length := by simp [keys]
  rw [e]
  refine Nat.le_trans (len_sub (m := pwL d) h.nd fun p hp => pwL_mem h0 h3 (h.hom p hp)) ?_
  unfold pwL
  split
  · decide
  · split
    · decide
    · split <;> decide
theorem hm_sum {d : Int} {t : Tb} (h : Hm d t) (h0 : 0 ≤ d) (h3 : d ≤ 3) (q : P3) : worth t q = ((pwL d).map fun m => cf t m * mon q m).sum := worth_box q (pwL_nd d) h.nd fun p hp => pwL_mem h0 h3 (h.hom p hp)
theorem cf_out {d : Int} {t : Tb} (h : Hm d t) (h0 : 0 ≤ d) (h3 : d ≤ 3) {m : P3} (hm : m ∉ pwL d) : cf t m = 0 := by
  have : val t m = none := val_none.mpr fun z => hm (pwL_mem h0 h3 (h.hom m z))
  unfold cf
  rw [this]; rfl
/-- a form is told by its worths -/
theorem cf_worth {d : Int} {t u : Tb} (h : Hm d t) (k : Hm d u) (h0 : 0 ≤ d) (h3 : d ≤ 3) {α β : Int} (e : ∀ q, α * worth t q = β * worth u q) (m : P3) : α * cf t m = β * cf u m := by
  by_cases hm : m ∈ pwL d
  · have e2 : ∀ q, α * ((pwL d).map fun m => cf t m * mon q m).sum = β * ((pwL d).map fun m => cf u m * mon q m).sum := fun q => by
      rw [← hm_sum h h0 h3, ← hm_sum k h0 h3]; exact e q
    have hd : d = 0 ∨ d = 1 ∨ d = 2 ∨ d = 3 := by omega
    rcases hd with rfl | rfl | rfl | rfl
    · have a := e2 (1, 1, 1)
      simp [pwL, mon] at a hm
      subst hm
      exact a
    · have a := e2 (1, 0, 0)
      have b := e2 (0, 1, 0)
      have c := e2 (0, 0, 1)
      simp [pwL, mon, box1] at a b c hm
      rcases hm with rfl | rfl | rfl
      · exact a
      · exact b
      · exact c
    · have a := e2 (1, 0, 0)
      have b := e2 (0, 1, 0)
      have c := e2 (0, 0, 1)
      have ab := e2 (1, 1, 0)
      have ac := e2 (1, 0, 1)
      have bc := e2 (0, 1, 1)
      simp [pwL, mon, box2, Int.mul_add] at a b c ab ac bc hm
      rcases hm with rfl | rfl | rfl | rfl | rfl | rfl <;> omega
    · have a := e2 (1, 0, 0)
      have b := e2 (0, 1, 0)
      have c := e2 (0, 0, 1)
      have ab := e2 (1, 1, 0)
      have ac := e2 (1, 0, 1)
      have bc := e2 (0, 1, 1)
      have ab' := e2 (1, -1, 0)
      have ac' := e2 (1, 0, -1)
      have bc' := e2 (0, 1, -1)
      have abc := e2 (1, 1, 1)
      simp [pwL, mon, box, Int.mul_add, Int.pow_succ, Int.mul_neg] at a b c ab ac bc ab' ac' bc' abc hm
      rcases hm with rfl | rfl | rfl | rfl | rfl | rfl | rfl | rfl | rfl | rfl <;> omega
  · rw [cf_out h h0 h3 hm, cf_out k h0 h3 hm]; omega
/-- somewhere its worth isn't nought -/
theorem worth_some {d : Int} {B : Nat} {t : Tb} (o : Ok d B t) (h0 : 0 ≤ d) (h3 : d ≤ 3) : ∃ q, worth t q ≠ 0 := by
  refine Classical.byContradiction fun hn => ?_
  have hz : ∀ q, worth t q = 0 := fun q => Classical.byContradiction fun z => hn ⟨q, z⟩
  have e := cf_worth o.hm (u := []) ⟨by simp [keys], by simp [keys]⟩ h0 h3 (α := 1) (β := 1) (fun q => by rw [hz, worth_nil])
  cases t with
  | nil => exact o.ne rfl
  | cons x t =>
    have h1 := e x.1
    rw [cf_mem o.gd.nd (x := x) (by simp), cf_nil] at h1
    have := o.gd.nz x (by simp)
    omega
/-- forms whose worths are in one ratio are kept alike -/
theorem norm_worth {d : Int} {t u : Tb} (g : Gd t) (k : Gd u) (h : Hm d t) (h' : Hm d u) (h0 : 0 ≤ d) (h3 : d ≤ 3) (ht : t ≠ []) (hu : u ≠ []) {α β : Int} (hα : α ≠ 0) (hβ : β ≠ 0) (e : ∀ q, α * worth t q = β * worth u q) : norm t = norm u :=
  norm_eq g k ht hu hα hβ (cf_worth h h' h0 h3 e)
end PM

set_option autoImplicit true
set_option autoImplicit false
/-! Sums put for the letters. -/
namespace PM
def Bd (b : Nat) (t : Tb) : Prop := ∀ x ∈ t, x.2.natAbs ≤ 2 ^ b
theorem Bd.mono {b c : Nat} {t : Tb} (h : Bd b t) (k : b ≤ c) : Bd c t := fun x hx => Nat.le_trans (h x hx) (Nat.pow_le_pow_right (by decide) k)
theorem bd_thin {b : Nat} {t : Tb} (h : Bd b t) : Bd b (thin t) := fun x hx => h x (List.mem_filter.mp hx).1
theorem bd_prod {b c : Nat} {t u : Tb} (h : Bd b t) (k : Bd c u) (ht : t.length ≤ 10) (hu : u.length ≤ 10) : Bd (b + c + 7) (prod t u) := by
  intro x hx
  rw [← cf_mem (gd_prod t u).nd hx, cf_prod]
  refine Nat.le_trans (psum_abs h k x.1) ?_
  have e : 2 ^ (b + c + 7) = 2 ^ b * 2 ^ c * 128 := by rw [Nat.pow_add, Nat.pow_add]
  rw [e]
  have h1 : u.length * (2 ^ b * 2 ^ c) ≤ 10 * (2 ^ b * 2 ^ c) := Nat.mul_le_mul_right _ hu
  have h2 : t.length * (u.length * (2 ^ b * 2 ^ c)) ≤ 10 * (10 * (2 ^ b * 2 ^ c)) := Nat.mul_le_mul ht h1
  omega
theorem keys_addT (t : Tb) (p : P3) (n : Int) : ∀ q ∈ keys (addT t p n), q = p ∨ q ∈ keys t := by
  intro q hq
  unfold addT at hq
  rw [keys_put] at hq
  split at hq
  · exact .inr hq
  · rcases List.mem_append.mp hq with h | h
    · exact .inr h
    · exact .inl (by simpa using h)
theorem hm_thin {d : Int} {t : Tb} (h : Hm d t) : Hm d (thin t) := ⟨nd_thin h.nd, fun p hp => h.hom p (by
  obtain ⟨x, hx, rfl⟩ := List.mem_map.mp hp
  exact List.mem_map_of_mem (List.mem_filter.mp hx).1)⟩
theorem hm_prod {d e : Int} {t u : Tb} (h : Hm d t) (k : Hm e u) : Hm (d + e) (prod t u) := by
  refine ⟨(gd_prod t u).nd, fun p hp => ?_⟩
  have := ((gd_prod t u).key p).mp hp
  rw [cf_prod] at this
  obtain ⟨a, ha, b, hb, rfl⟩ := psum_key this
  have h1 := h.hom a.1 (List.mem_map_of_mem (f := (·.1)) ha)
  have h2 := k.hom b.1 (List.mem_map_of_mem (f := (·.1)) hb)
  unfold add3
  dsimp only
  omega
/-! a sum and so often another one -/
def sumR (k : Int) (t u : Tb) : Tb := u.foldl (fun acc x => addT acc x.1 (k * x.2)) t
def sumT (k : Int) (t u : Tb) : Tb := thin (sumR k t u)
theorem sumR_cons (k : Int) (t : Tb) (x : P3 × Int) (u : Tb) : sumR k t (x :: u) = sumR k (addT t x.1 (k * x.2)) u := rfl
theorem nd_sumR (k : Int) : ∀ (u : Tb) {t : Tb}, (keys t).Nodup → (keys (sumR k t u)).Nodup
  | [], _, h => h
  | x :: u, _, h => nd_sumR k u (nd_addT h _ _)
theorem worth_sumR (k : Int) (q : P3) : ∀ (u : Tb) {t : Tb}, (keys t).Nodup → worth (sumR k t u) q = worth t q + k * worth u q
  | [], t, _ => by
    show worth t q = _
    rw [worth_nil]; omega
  | x :: u, t, h => by
    rw [sumR_cons, worth_sumR k q u (nd_addT h _ _), worth_addT h, worth_cons]
    grind
theorem hm_sumR {d : Int} (k : Int) : ∀ {u t : Tb}, Hm d t → (∀ p ∈ keys u, 0 ≤ p.1 ∧ 0 ≤ p.2.1 ∧ 0 ≤ p.2.2 ∧ p.1 + p.2.1 + p.2.2 = d) → Hm d (sumR k t u)
  | [], _, h, _ => h
  | x :: u, t, h, hu => by
    refine hm_sumR k (u := u) ⟨nd_addT h.nd _ _, fun p hp => ?_⟩ fun p hp => hu p (by unfold keys at hp ⊢; simp at hp ⊢; exact .inr hp)
    rcases keys_addT t x.1 _ p hp with rfl | hp
    · exact hu x.1 (by simp [keys])
    · exact h.hom p hp
theorem hm_sumT {d : Int} {k : Int} {t u : Tb} (h : Hm d t) (h2 : Hm d u) : Hm d (sumT k t u) := hm_thin (hm_sumR k h h2.hom)
theorem worth_sumT {k : Int} {t u : Tb} (h : (keys t).Nodup) (q : P3) : worth (sumT k t u) q = worth t q + k * worth u q := by
  unfold sumT
  rw [worth_thin, worth_sumR k q u h]
theorem gd_sumT {k : Int} {t u : Tb} (h : (keys t).Nodup) : Gd (sumT k t u) := gd_thin (nd_sumR k u h)
theorem cf_sumR (k : Int) (p : P3) : ∀ {u t : Tb}, (keys u).Nodup → cf (sumR k t u) p = cf t p + k * cf u p
  | [], t, _ => by
    show cf t p = _
    rw [cf_nil]; omega
  | x :: u, t, nd => by
    unfold keys at nd
    rw [List.map_cons, List.nodup_cons] at nd
    rw [sumR_cons, cf_sumR k p nd.2, cf_addT, cf_cons]
    by_cases z : x.1 = p
    · subst z
      have hz : cf u x.1 = 0 := by
        have : val u x.1 = none := val_none.mpr nd.1
        unfold cf
        rw [this]; rfl
      rw [if_pos rfl, if_pos rfl, hz]
      omega
    · rw [if_neg z, if_neg fun w => z w.symm]
      omega
theorem cf_abs {b : Nat} {t : Tb} {n : Nat} (h : ∀ x ∈ t, x.2.natAbs ≤ n) (p : P3) : (cf t p).natAbs ≤ n := by
  unfold cf
  cases e : val t p with
  | none => simp
  | some v => exact h _ (val_some e)
theorem abs_sumT {t u : Tb} {m n : Nat} (ht : (keys t).Nodup) (hu : (keys u).Nodup) (h : ∀ x ∈ t, x.2.natAbs ≤ m) (k : ∀ x ∈ u, x.2.natAbs ≤ n) : ∀ x ∈ sumT 1 t u, x.2.natAbs ≤ m + n := by
  intro x hx
  rw [← cf_mem (gd_sumT ht).nd hx]
  unfold sumT
  rw [cf_thin (nd_sumR 1 u ht), cf_sumR 1 x.1 hu]
  have h1 := cf_abs (b := 0) h x.1
  have h2 := cf_abs (b := 0) k x.1
  omega
theorem len_addT (t : Tb) (p : P3) (n : Int) : (addT t p n).length ≤ t.length + 1 := by
  unfold addT put
  split <;> simp
theorem len_sumR (k : Int) : ∀ (u t : Tb), (sumR k t u).length ≤ t.length + u.length
  | [], t => Nat.le_refl _
  | x :: u, t => by
    rw [sumR_cons]
    have h1 := len_sumR k u (addT t x.1 (k * x.2))
    have h2 := len_addT t x.1 (k * x.2)
    rw [List.length_cons]
    omega
/-! powers -/
def one0 : Tb := [((0, 0, 0), 1)]
def powT (u : Tb) : Nat → Tb
  | 0 => one0
  | n + 1 => prod (powT u n) u
def k0 (n : Int) : Tb := [((0, 0, 0), n)]
theorem hm_k0 (n : Int) : Hm 0 (k0 n) := ⟨by simp [k0, keys], by simp [k0, keys]⟩
theorem worth_k0 (n : Int) (q : P3) : worth (k0 n) q = n := by simp [worth, k0, mon]
theorem hm_pow {u : Tb} (h : Hm 1 u) : ∀ n : Nat, Hm n (powT u n)
  | 0 => hm_k0 1
  | n + 1 => by
    have := hm_prod (hm_pow h n) h
    exact this
theorem worth_pow {u : Tb} (h : Hm 1 u) (q : P3) : ∀ n : Nat, worth (powT u n) q = worth u q ^ n
  | 0 => by rw [Int.pow_zero]; exact worth_k0 1 q
  | n + 1 => by
    show worth (prod (powT u n) u) q = _
    rw [worth_prod (hm_pow h n).nn h.nn, worth_pow h q n, Int.pow_succ]
theorem bd_pow {u : Tb} {c : Nat} (h : Hm 1 u) (k : Bd c u) : ∀ n : Nat, n ≤ 3 → Bd ((c + 7) * n) (powT u n)
  | 0, _ => by
    intro x hx
    simp [powT, one0] at hx
    subst hx
    simp
  | n + 1, hn => by
    have h1 := bd_pow h k n (by omega)
    have h2 := (hm_pow h n).len (by omega) (by omega)
    have h3 := h.len (by decide) (by decide)
    have := bd_prod h1 k h2 h3
    exact this.mono (by rw [Nat.mul_add]; omega)
/-! the rows -/
structure Rw3 where
  a : P3
  b : P3
  c : P3
def mapR (R : Rw3) (q : P3) : P3 := (dot R.a q, dot R.b q, dot R.c q)
def det (R : Rw3) : Int := dot R.a (cross R.b R.c)
def lin (q x y z : P3) : P3 := (q.1 * x.1 + q.2.1 * y.1 + q.2.2 * z.1, q.1 * x.2.1 + q.2.1 * y.2.1 + q.2.2 * z.2.1, q.1 * x.2.2 + q.2.1 * y.2.2 + q.2.2 * z.2.2)
def adj (R : Rw3) (q : P3) : P3 := lin q (cross R.b R.c) (cross R.c R.a) (cross R.a R.b)
theorem mapR_adj (R : Rw3) (q : P3) : mapR R (adj R q) = smul (det R) q := by
  obtain ⟨⟨a, b, c⟩, ⟨d, e, f⟩, ⟨g, h, i⟩⟩ := R
  obtain ⟨x, y, z⟩ := q
  unfold mapR adj lin smul det dot cross
  dsimp only
  refine P3.eq ?_ ?_ ?_ <;> dsimp only <;> grind
theorem adj_mapR (R : Rw3) (p : P3) : adj R (mapR R p) = smul (det R) p := by
  obtain ⟨⟨a, b, c⟩, ⟨d, e, f⟩, ⟨g, h, i⟩⟩ := R
  obtain ⟨x, y, z⟩ := p
  unfold mapR adj lin smul det dot cross
  dsimp only
  refine P3.eq ?_ ?_ ?_ <;> dsimp only <;> grind
theorem mapR_ne {R : Rw3} (h : det R ≠ 0) {p : P3} (hp : p ≠ (0, 0, 0)) : mapR R p ≠ (0, 0, 0) := by
  intro z
  have e := adj_mapR R p
  rw [z] at e
  have e0 : adj R (0, 0, 0) = (0, 0, 0) := by simp [adj, lin]
  rw [e0] at e
  unfold smul at e
  simp only [Prod.mk.injEq] at e
  obtain ⟨e1, e2, e3⟩ := e
  have z : ∀ {x : Int}, 0 = det R * x → x = 0 := fun {x} e => (Int.mul_eq_zero.mp e.symm).resolve_left h
  exact hp (P3.eq (q := (0, 0, 0)) (z e1) (z e2) (z e3))
theorem row_ne {R : Rw3} (h : det R ≠ 0) : R.a ≠ (0, 0, 0) ∧ R.b ≠ (0, 0, 0) ∧ R.c ≠ (0, 0, 0) := by
  obtain ⟨a, b, c⟩ := R
  refine ⟨?_, ?_, ?_⟩ <;> (intro z; dsimp only at z; subst z; apply h; simp [det, dot, cross])
/-- a sum put in isn't nought -/
theorem put_ne {d : Int} {B : Nat} {t P : Tb} {R : Rw3} (o : Ok d B t) (h0 : 0 ≤ d) (h3 : d ≤ 3) (hd : det R ≠ 0) (e : ∀ q, worth P q = worth t (mapR R q)) : P ≠ [] := by
  obtain ⟨q, hq⟩ := worth_some o h0 h3
  intro z
  have := e (adj R q)
  rw [z, worth_nil, mapR_adj, worth_smul o] at this
  rcases Int.mul_eq_zero.mp this.symm with h | h
  · exact Int.pow_ne_zero hd h
  · exact hq h
theorem ok_of {d : Int} {b : Nat} {P : Tb} (g : Gd P) (h : Hm d P) (k : Bd b P) (ne : P ≠ []) : Ok d (2 ^ b) P := ⟨g, ne, h.hom, k⟩
/-- put in for the kept one or for the one at hand: kept alike -/
theorem put_norm {d : Int} {B : Nat} {t P P' : Tb} {R : Rw3} (o : Ok d B t) (h1 : 1 ≤ d) (h3 : d ≤ 3) (hd : det R ≠ 0) (g : Gd P) (h : Hm d P) (g' : Gd P') (h' : Hm d P') (e : ∀ q, worth P q = worth (norm t) (mapR R q)) (e' : ∀ q, worth P' q = worth t (mapR R q)) : norm P' = norm P := by
  have n1 := put_ne (ok_norm o) (by omega) h3 hd e
  have n2 := put_ne o (by omega) h3 hd e'
  refine norm_worth g' g h' h (by omega) h3 n2 n1 (α := 1) (β := div t) (by decide) (div_ne o.gd o.ne) fun q => ?_
  rw [e, e', worth_norm]
  omega
end PM

set_option autoImplicit true
set_option autoImplicit false
/-! A form along a line: numbers by powers. -/
namespace PM
def zw (A B : List Int) : List Int := List.zipWith (· + ·) A B
/-- numbers by powers, times a and b t -/
def t1 (ns : List Int) (a b : Int) : List Int := match ns.map (a * ·) ++ [0] with
  | [] => []
  | x :: L => x :: zw L (ns.map (b * ·))
def t1N (ns : List Int) (a b : Int) : Nat → List Int
  | 0 => ns
  | n + 1 => t1 (t1N ns a b n) a b
def ev (s t : Int) : List Int → Int
  | [] => 0
  | x :: L => x * s ^ L.length + t * ev s t L
theorem ev_zw (s t : Int) : ∀ {A B : List Int}, A.length = B.length → ev s t (zw A B) = ev s t A + ev s t B
  | [], [], _ => rfl
  | [], b :: B, h => by simp at h
  | a :: A, [], h => by simp at h
  | a :: A, b :: B, h => by
    have h2 : A.length = B.length := by simpa using h
    have ih := ev_zw s t h2
    have e : zw (a :: A) (b :: B) = (a + b) :: zw A B := rfl
    have l : (zw A B).length = A.length := by simp [zw, h2]
    rw [e, ev, ev, ev, ih, l, h2]
    grind
theorem ev_map (s t a : Int) : ∀ L : List Int, ev s t (L.map (a * ·)) = a * ev s t L
  | [] => by simp [ev]
  | x :: L => by
    rw [List.map_cons, ev, ev, ev_map s t a L, List.length_map]
    grind
theorem ev_app0 (s t : Int) : ∀ L : List Int, ev s t (L ++ [0]) = s * ev s t L
  | [] => by simp [ev]
  | x :: L => by
    rw [List.cons_append, ev, ev, ev_app0 s t L]
    have e : (L ++ [0]).length = L.length + 1 := by simp
    rw [e, Int.pow_succ]
    grind
theorem t1_eq (ns : List Int) (a b : Int) : ∃ x L, ns.map (a * ·) ++ [0] = x :: L ∧ L.length = ns.length ∧ t1 ns a b = x :: zw L (ns.map (b * ·)) := by
  cases e : ns.map (a * ·) ++ [0] with
  | nil => simp at e
  | cons x L =>
    have h := congrArg List.length e
    simp at h
    refine ⟨x, L, rfl, h.symm, ?_⟩
    unfold t1
    rw [e]
theorem t1_len (ns : List Int) (a b : Int) : (t1 ns a b).length = ns.length + 1 := by
  obtain ⟨x, L, e, hl, ht⟩ := t1_eq ns a b
  rw [ht]
  simp [zw, hl]
theorem ev_t1 (s t : Int) (ns : List Int) (a b : Int) : ev s t (t1 ns a b) = (s * a + t * b) * ev s t ns := by
  obtain ⟨x, L, e, hl, ht⟩ := t1_eq ns a b
  have h1 := ev_app0 s t (ns.map (a * ·))
  rw [e, ev, ev_map] at h1
  have lz : (zw L (ns.map (b * ·))).length = L.length := by simp [zw, hl]
  rw [ht, ev, lz, ev_zw s t (by simp [hl]), ev_map]
  grind
theorem t1N_len (ns : List Int) (a b : Int) : ∀ n, (t1N ns a b n).length = ns.length + n
  | 0 => rfl
  | n + 1 => by
    show (t1 (t1N ns a b n) a b).length = _
    rw [t1_len, t1N_len ns a b n]
    omega
theorem ev_t1N (s t : Int) (ns : List Int) (a b : Int) : ∀ n, ev s t (t1N ns a b n) = (s * a + t * b) ^ n * ev s t ns
  | 0 => by simp [t1N]
  | n + 1 => by
    show ev s t (t1 (t1N ns a b n) a b) = _
    rw [ev_t1, ev_t1N s t ns a b n, Int.pow_succ]
    grind
/-- bounds -/
def Bl (b : Nat) (ns : List Int) : Prop := ∀ n ∈ ns, n.natAbs ≤ 2 ^ b
theorem mem_zw {z : Int} : ∀ {A B : List Int}, z ∈ zw A B → ∃ a ∈ A, ∃ b ∈ B, z = a + b
  | [], _, h => by simp [zw] at h
  | _ :: _, [], h => by simp [zw] at h
  | a :: A, b :: B, h => by
    have h : z ∈ (a + b) :: zw A B := h
    rcases List.mem_cons.mp h with rfl | h
    · exact ⟨a, .head _, b, .head _, rfl⟩
    · obtain ⟨p, hp, q, hq, e⟩ := mem_zw h
      exact ⟨p, .tail _ hp, q, .tail _ hq, e⟩
theorem bl_t1 {k : Nat} {ns : List Int} {a b : Int} (h : Bl k ns) (ha : a.natAbs ≤ 2 ^ 7) (hb : b.natAbs ≤ 2 ^ 7) : Bl (k + 8) (t1 ns a b) := by
  obtain ⟨x, L, e, hl, ht⟩ := t1_eq ns a b
  have m : ∀ {c : Int}, c.natAbs ≤ 2 ^ 7 → ∀ n ∈ ns, (c * n).natAbs ≤ 2 ^ (k + 7) := fun {c} hc n hn => by
    rw [Int.natAbs_mul, Nat.pow_add, Nat.mul_comm]
    exact Nat.mul_le_mul (h n hn) hc
  have e8 : 2 ^ (k + 8) = 2 ^ (k + 7) * 2 := Nat.pow_succ ..
  have all : ∀ y ∈ x :: L, y.natAbs ≤ 2 ^ (k + 7) := by
    intro y hy
    rw [← e, List.mem_append] at hy
    rcases hy with hy | hy
    · obtain ⟨n, hn, rfl⟩ := List.mem_map.mp hy
      exact m ha n hn
    · have : y = 0 := by simpa using hy
      rw [this]; simp
  intro z hz
  rw [ht] at hz
  rcases List.mem_cons.mp hz with rfl | hz
  · have := all z (.head _)
    omega
  · obtain ⟨p, hp, q, hq, rfl⟩ := mem_zw hz
    obtain ⟨n, hn, rfl⟩ := List.mem_map.mp hq
    have h1 := all p (.tail _ hp)
    have h2 := m hb n hn
    have := Int.natAbs_add_le p (b * n)
    omega
theorem bl_t1N {k : Nat} {ns : List Int} {a b : Int} (h : Bl k ns) (ha : a.natAbs ≤ 2 ^ 7) (hb : b.natAbs ≤ 2 ^ 7) : ∀ n, Bl (k + 8 * n) (t1N ns a b n)
  | 0 => h
  | n + 1 => bl_t1 (bl_t1N h ha hb n) ha hb
/-- the numbers of a term -/
def nl (x : P3 × Int) (p q : P3) : List Int := t1N (t1N (t1N [x.2] p.1 q.1 x.1.1.toNat) p.2.1 q.2.1 x.1.2.1.toNat) p.2.2 q.2.2 x.1.2.2.toNat
theorem nl_len {x : P3 × Int} {p q : P3} {d : Int} (h : 0 ≤ x.1.1 ∧ 0 ≤ x.1.2.1 ∧ 0 ≤ x.1.2.2 ∧ x.1.1 + x.1.2.1 + x.1.2.2 = d) : (nl x p q).length = d.toNat + 1 := by
  unfold nl
  rw [t1N_len, t1N_len, t1N_len]
  simp
  omega
def lin2 (s t : Int) (p q : P3) : P3 := (s * p.1 + t * q.1, s * p.2.1 + t * q.2.1, s * p.2.2 + t * q.2.2)
theorem ev_nl (s t : Int) (x : P3 × Int) (p q : P3) : ev s t (nl x p q) = x.2 * mon (lin2 s t p q) x.1 := by
  unfold nl
  rw [ev_t1N, ev_t1N, ev_t1N]
  unfold mon lin2
  simp [ev]
  grind
/-- a form's numbers along a line -/
def alL (acc : List Int) (T : Tb) (p q : P3) : List Int := T.foldl (fun acc x => zw acc (nl x p q)) acc
theorem ev_alL (s t : Int) (p q : P3) {d : Int} : ∀ {T : Tb} {acc : List Int}, (∀ y ∈ keys T, 0 ≤ y.1 ∧ 0 ≤ y.2.1 ∧ 0 ≤ y.2.2 ∧ y.1 + y.2.1 + y.2.2 = d) → acc.length = d.toNat + 1 → ev s t (alL acc T p q) = ev s t acc + worth T (lin2 s t p q) ∧ (alL acc T p q).length = d.toNat + 1
  | [], acc, _, hl => by
    rw [worth_nil]
    exact ⟨by show ev s t acc = _; omega, hl⟩
  | x :: T, acc, hh, hl => by
    have hx := hh x.1 (by simp [keys])
    have ln := nl_len (p := p) (q := q) hx
    have lz : (zw acc (nl x p q)).length = d.toNat + 1 := by simp [zw, hl, ln]
    have ih := ev_alL s t p q (T := T) (acc := zw acc (nl x p q)) (fun y hy => hh y (by unfold keys at hy ⊢; simp at hy ⊢; exact .inr hy)) lz
    refine ⟨?_, ih.2⟩
    show ev s t (alL (zw acc (nl x p q)) T p q) = _
    rw [ih.1, ev_zw s t (by rw [hl, ln]), ev_nl, worth_cons]
    omega
theorem ev_zero (s t : Int) : ∀ n, ev s t (List.replicate n 0) = 0
  | 0 => rfl
  | n + 1 => by
    rw [List.replicate_succ, ev, ev_zero s t n]
    simp
end PM

set_option autoImplicit true
set_option autoImplicit false
/-! Forms: Gauss, and one form over another. -/
namespace PM
theorem min_dvd (d : Nat) (h : 1 < d) : ∃ p, 1 < p ∧ p ∣ d ∧ ∀ m, 1 < m → m ∣ p → m = p := by
  induction d using Nat.strongRecOn with
  | _ d ih =>
    by_cases z : ∃ m, 1 < m ∧ m ∣ d ∧ m ≠ d
    · obtain ⟨m, h1, h2, h3⟩ := z
      have := Nat.le_of_dvd (by omega) h2
      obtain ⟨p, p1, p2, p3⟩ := ih m (by omega) h1
      exact ⟨p, p1, Nat.dvd_trans p2 h2, p3⟩
    · refine ⟨d, h, Nat.dvd_refl _, fun m h1 h2 => ?_⟩
      by_cases w : m = d
      · exact w
      · exact absurd ⟨m, h1, h2, w⟩ z
theorem euclid {p x y : Nat} (h1 : 1 < p) (hp : ∀ m, 1 < m → m ∣ p → m = p) (h : p ∣ x * y) : p ∣ x ∨ p ∣ y := by
  by_cases g : Nat.gcd p x = 1
  · exact .inr (Nat.Coprime.dvd_of_dvd_mul_left g h)
  · have g0 : 0 < Nat.gcd p x := Nat.gcd_pos_of_pos_left _ (by omega)
    have := hp (Nat.gcd p x) (by omega) (Nat.gcd_dvd_left _ _)
    exact .inl (this ▸ Nat.gcd_dvd_right p x)
theorem dvd_sum {p : Int} {l : List Int} (h : ∀ x ∈ l, p ∣ x) : p ∣ l.sum := by
  induction l with
  | nil => simp
  | cons x l ih =>
    rw [List.sum_cons]
    exact Int.dvd_add (h x (by simp)) (ih fun y hy => h y (by simp [hy]))
theorem rsum_dvd {p : Int} {a : P3 × Int} (h : p ∣ a.2) (u : Tb) (q : P3) : p ∣ rsum a u q := by
  refine dvd_sum fun x hx => ?_
  obtain ⟨b, _, rfl⟩ := List.mem_map.mp hx
  split
  · exact Int.dvd_mul_of_dvd_left h
  · simp
theorem psum_cons (a : P3 × Int) (t u : Tb) (q : P3) : psum (a :: t) u q = rsum a u q + psum t u q := by
  unfold psum; rw [List.map_cons, List.sum_cons]
def outs (p : Int) (t : Tb) : Tb := t.filter fun x => !decide (p ∣ x.2)
theorem psum_outs (p : Int) (u : Tb) (q : P3) : ∀ t : Tb, p ∣ psum t u q - psum (outs p t) u q
  | [] => by simp [outs]
  | a :: t => by
    have ih := psum_outs p u q t
    unfold outs at ih ⊢
    rw [List.filter_cons]
    by_cases h : p ∣ a.2
    · rw [if_neg (by simpa using h), psum_cons]
      have := rsum_dvd h u q
      have e : rsum a u q + psum t u q - psum (List.filter (fun x => !decide (p ∣ x.2)) t) u q = rsum a u q + (psum t u q - psum (List.filter (fun x => !decide (p ∣ x.2)) t) u q) := by omega
      rw [e]
      exact Int.dvd_add this ih
    · rw [if_pos (by simpa using h), psum_cons, psum_cons]
      have e : rsum a u q + psum t u q - (rsum a u q + psum (List.filter (fun x => !decide (p ∣ x.2)) t) u q) = psum t u q - psum (List.filter (fun x => !decide (p ∣ x.2)) t) u q := by omega
      rw [e]
      exact ih
theorem gd_outs {t : Tb} (g : Gd t) (p : Int) : Gd (outs p t) := ⟨List.Nodup.sublist (List.Sublist.map _ List.filter_sublist) g.nd, fun x hx => g.nz x (List.mem_filter.mp hx).1⟩
theorem outs_ne {t : Tb} {p : Nat} (h1 : 1 < p) (hs : share t = 1) : outs p t ≠ [] := by
  intro z
  have : p ∣ share t := dvd_share.mpr fun x hx => by
    by_cases w : (p : Int) ∣ x.2
    · exact Int.ofNat_dvd_left.mp w
    · have : x ∈ outs p t := List.mem_filter.mpr ⟨hx, by simpa using w⟩
      rw [z] at this
      cases this
  rw [hs] at this
  have := Nat.le_of_dvd (by decide) this
  omega
theorem share_ne {t : Tb} (h : share t = 1) : t ≠ [] := by
  intro z
  subst z
  cases h
theorem share_prod1 {A B : Tb} (gA : Gd A) (gB : Gd B) (hA : share A = 1) (hB : share B = 1) : share (prod A B) = 1 := by
  have ne := prod_ne gA gB (share_ne hA) (share_ne hB)
  have pos := share_pos (gd_prod A B) ne
  by_cases h : share (prod A B) = 1
  · exact h
  · exfalso
    obtain ⟨p, p1, pd, pm⟩ := min_dvd (share (prod A B)) (by omega)
    have all : ∀ q, (p : Int) ∣ psum A B q := fun q => by
      rw [← cf_prod]
      by_cases k : q ∈ keys (prod A B)
      · obtain ⟨x, hx, rfl⟩ := List.mem_map.mp k
        rw [cf_mem (gd_prod A B).nd hx]
        exact Int.ofNat_dvd_left.mpr (dvd_share.mp pd x hx)
      · have := val_none.mpr k
        unfold cf
        rw [this]
        simp
    have gA' := gd_outs gA p
    have gB' := gd_outs gB p
    have s1 := sorted_keys gA'.nd
    have s2 := sorted_keys gB'.nd
    cases et : sorted (outs p A) with
    | nil => exact sorted_ne (outs_ne p1 hA) et
    | cons x r =>
      cases eu : sorted (outs p B) with
      | nil => exact sorted_ne (outs_ne p1 hB) eu
      | cons y s =>
        rw [et] at s1; rw [eu] at s2
        have top := psum_top s1 s2
        have e : psum (sorted (outs p A)) (sorted (outs p B)) (add3 x.1 y.1) = psum (outs p A) (outs p B) (add3 x.1 y.1) := by
          rw [psum_perm (sorted_perm _), psum_comm, psum_perm (sorted_perm _), psum_comm]
        rw [← et, ← eu, e] at top
        have a1 := psum_outs p B (add3 x.1 y.1) A
        have a2 := psum_outs p (outs p A) (add3 x.1 y.1) B
        rw [psum_comm B, psum_comm (outs p B), top] at a2
        have a3 := all (add3 x.1 y.1)
        have a4 : (p : Int) ∣ x.2 * y.2 := by
          have := Int.dvd_sub a3 (Int.dvd_add a1 a2)
          have e : psum A B (add3 x.1 y.1) - (psum A B (add3 x.1 y.1) - psum (outs p A) B (add3 x.1 y.1) + (psum (outs p A) B (add3 x.1 y.1) - x.2 * y.2)) = x.2 * y.2 := by omega
          rw [e] at this
          exact this
        have a5 := Int.ofNat_dvd_left.mp a4
        rw [Int.natAbs_mul] at a5
        have hx : x ∈ outs p A := sorted_mem.mp (by rw [et]; simp)
        have hy : y ∈ outs p B := sorted_mem.mp (by rw [eu]; simp)
        have hx2 := (List.mem_filter.mp hx).2
        have hy2 := (List.mem_filter.mp hy).2
        simp only [Bool.not_eq_true', decide_eq_false_iff_not] at hx2 hy2
        rcases euclid p1 pm a5 with w | w
        · exact hx2 (Int.ofNat_dvd_left.mpr w)
        · exact hy2 (Int.ofNat_dvd_left.mpr w)
theorem share_norm {t : Tb} (g : Gd t) (h : t ≠ []) : share (norm t) = 1 := by
  have := share_scale (gd_norm g) g (α := div t) (β := 1) (div_ne g h) (by decide) fun p => by rw [cf_norm g, Int.one_mul]
  rw [div_natAbs] at this
  simp only [Int.natAbs_one, Nat.one_mul] at this
  have pos := share_pos g h
  have := Nat.le_of_dvd pos this
  have k := share_pos (gd_norm g) (norm_ne h)
  have : ¬ 2 ≤ share (norm t) := fun w => by
    have := Nat.mul_le_mul_left (share t) w
    omega
  omega
/-- the kept form of a product is the product of the kept ones but for the sign -/
theorem norm_mul {L R : Tb} (g : Gd L) (k : Gd R) (hL : L ≠ []) (hR : R ≠ []) : ∃ e : Int, (e = 1 ∨ e = -1) ∧ ∀ q, cf (norm (prod L R)) q = e * psum (norm L) (norm R) q := by
  have s := share_prod1 (gd_norm g) (gd_norm k) (share_norm g hL) (share_norm k hR)
  refine ⟨sgn (prod (norm L) (norm R)), sgn_or _, fun q => ?_⟩
  rw [← norm_prod g k hL hR, ← cf_prod, ← cf_norm (gd_prod _ _)]
  unfold div
  rw [s]
  rcases sgn_or (prod (norm L) (norm R)) with h | h <;> rw [h] <;> simp
/-! ### one over another -/
def sub3 (p q : P3) : P3 := (p.1 - q.1, p.2.1 - q.2.1, p.2.2 - q.2.2)
def nn3 (p : P3) : Prop := 0 ≤ p.1 ∧ 0 ≤ p.2.1 ∧ 0 ≤ p.2.2
instance (p : P3) : Decidable (nn3 p) := by unfold nn3; infer_instance
def mulT (p : P3) (n : Int) (A : Tb) : Tb := A.map fun y => (add3 p y.1, n * y.2)
def stepT (A : Tb) (p : P3) (n : Int) (rest : Tb) : Tb := sumT (-1) rest (mulT p n A)
def divF (a : P3 × Int) (A : Tb) : Nat → Tb → Tb → Option Tb
  | 0, rest, found => match sorted rest with
    | [] => some found
    | _ :: _ => none
  | k + 1, rest, found => match sorted rest with
    | [] => some found
    | x :: _ => if nn3 (sub3 x.1 a.1) ∧ x.2.fmod a.2 = 0 then divF a A k (stepT A (sub3 x.1 a.1) (x.2.fdiv a.2) rest) (put found (sub3 x.1 a.1) (x.2.fdiv a.2)) else none
def code (p : P3) : Nat := (16 * p.1 + 4 * p.2.1 + p.2.2).toNat
theorem add3_inj {p q r : P3} (h : add3 p q = add3 p r) : q = r := by
  unfold add3 at h
  simp only [Prod.mk.injEq] at h
  exact P3.eq (by omega) (by omega) (by omega)
theorem add_sub3 (p q : P3) : add3 (sub3 p q) q = p := by
  unfold add3 sub3
  exact P3.eq (by dsimp only; omega) (by dsimp only; omega) (by dsimp only; omega)
theorem mulT_keys (p : P3) (n : Int) (A : Tb) : keys (mulT p n A) = (keys A).map (add3 p) := by
  unfold mulT keys
  rw [List.map_map, List.map_map]
  rfl
theorem nodup_map_inj {α β : Type} {f : α → β} (hf : ∀ a b, f a = f b → a = b) : ∀ {l : List α}, l.Nodup → (l.map f).Nodup
  | [], _ => by simp
  | x :: l, h => by
    rw [List.nodup_cons] at h
    rw [List.map_cons, List.nodup_cons]
    refine ⟨fun z => ?_, nodup_map_inj hf h.2⟩
    obtain ⟨y, hy, e⟩ := List.mem_map.mp z
    exact h.1 (hf _ _ e ▸ hy)
theorem nd_mulT {A : Tb} (h : (keys A).Nodup) (p : P3) (n : Int) : (keys (mulT p n A)).Nodup := by
  rw [mulT_keys]
  exact nodup_map_inj (fun a b e => add3_inj e) h
theorem gd_mulT {A : Tb} (g : Gd A) (p : P3) {n : Int} (h : n ≠ 0) : Gd (mulT p n A) := ⟨nd_mulT g.nd p n, fun x hx => by
  obtain ⟨y, hy, rfl⟩ := List.mem_map.mp hx
  exact Int.mul_ne_zero h (g.nz y hy)⟩
theorem put_new {t : Tb} {p : P3} {n : Int} (h : p ∉ keys t) : put t p n = t ++ [(p, n)] := by
  unfold put
  rw [if_neg fun z => h (any_keys.mp z)]
theorem cf_new {t : Tb} {p : P3} (h : p ∉ keys t) : cf t p = 0 := by
  unfold cf
  rw [val_none.mpr h]
  rfl
theorem row_new (p : P3) (n : Int) : ∀ (A acc : Tb), (keys acc ++ (keys A).map (add3 p)).Nodup → row acc (p, n) A = acc ++ mulT p n A
  | [], acc, _ => by simp [row, mulT]
  | y :: A, acc, h => by
    have hn : add3 p y.1 ∉ keys acc := fun z => by
      rw [List.nodup_append] at h
      exact h.2.2 _ z _ (by simp [keys]) rfl
    have e : addT acc (add3 p y.1) (n * y.2) = acc ++ [(add3 p y.1, n * y.2)] := by
      unfold addT
      rw [put_new hn, cf_new hn, Int.zero_add]
    have ih := row_new p n A (acc ++ [(add3 p y.1, n * y.2)]) (by
      have : keys (acc ++ [(add3 p y.1, n * y.2)]) ++ (keys A).map (add3 p) = keys acc ++ (keys (y :: A)).map (add3 p) := by simp [keys]
      rw [this]
      exact h)
    unfold row at ih ⊢
    rw [List.foldl_cons]
    dsimp only
    rw [e, ih]
    simp [mulT]
theorem thin_id {t : Tb} (h : ∀ x ∈ t, x.2 ≠ 0) : thin t = t := by
  unfold thin
  rw [List.filter_eq_self]
  intro x hx
  simpa using h x hx
theorem prod_one {A : Tb} (g : Gd A) (p : P3) {n : Int} (h : n ≠ 0) : prod [(p, n)] A = mulT p n A := by
  have e : raw [] [(p, n)] A = mulT p n A := by
    show row [] (p, n) A = _
    rw [row_new p n A [] (by simpa [keys] using nodup_map_inj (f := add3 p) (fun a b e => add3_inj e) g.nd)]
    rfl
  unfold prod
  rw [e]
  exact thin_id (gd_mulT g p h).nz
theorem cf_mulT {A : Tb} (g : Gd A) (p : P3) {n : Int} (h : n ≠ 0) (q : P3) : cf (mulT p n A) q = rsum (p, n) A q := by
  rw [← prod_one g p h, cf_prod]
  simp [psum]
theorem cf_stepT {A rest : Tb} (g : Gd A) (r : (keys rest).Nodup) (p : P3) {n : Int} (h : n ≠ 0) (q : P3) : cf (stepT A p n rest) q = cf rest q - rsum (p, n) A q := by
  unfold stepT sumT
  rw [cf_thin (nd_sumR _ _ r), cf_sumR _ _ (nd_mulT g.nd p n), cf_mulT g p h]
  omega
theorem top_le {t : Tb} (nd : (keys t).Nodup) {x : P3 × Int} {r : Tb} (h : sorted t = x :: r) : x ∈ t ∧ ∀ p ∈ keys t, Lt p x.1 ∨ p = x.1 := by
  have s := sorted_keys nd
  rw [h] at s
  unfold keys at s
  rw [List.map_cons, List.pairwise_cons] at s
  refine ⟨sorted_mem.mp (by rw [h]; simp), fun p hp => ?_⟩
  have : p ∈ keys (sorted t) := ((sorted_perm t).map _).mem_iff.mpr hp
  rw [h] at this
  unfold keys at this
  rw [List.map_cons, List.mem_cons] at this
  rcases this with w | w
  · exact .inr w
  · exact .inl (s.1 p w)
structure Dv (D E : Int) (b k : Nat) (rest found : Tb) : Prop where
  hr : Hm D rest
  gr : Gd rest
  br : Bd b rest
  cd : ∀ p ∈ keys rest, code p < k
  hf : Hm (D - E) found
  gf : Gd found
  bf : Bd b found
theorem code_lt {D : Int} (h3 : D ≤ 3) {p q : P3} (hp : 0 ≤ p.1 ∧ 0 ≤ p.2.1 ∧ 0 ≤ p.2.2 ∧ p.1 + p.2.1 + p.2.2 = D) (hq : 0 ≤ q.1 ∧ 0 ≤ q.2.1 ∧ 0 ≤ q.2.2 ∧ q.1 + q.2.1 + q.2.2 = D) (h : Lt p q) : code p < code q := by
  unfold Lt at h
  unfold code
  omega
theorem add3_le {p q r : P3} (h : Lt q r ∨ q = r) : Lt (add3 p q) (add3 p r) ∨ add3 p q = add3 p r := by
  rcases h with h | rfl
  · left
    unfold Lt at *
    unfold add3
    dsimp only
    omega
  · exact .inr rfl
theorem Dv.step {D E : Int} {b c k : Nat} {rest found A r A' : Tb} {x a : P3 × Int} (v : Dv D E b k rest found) (h3 : D ≤ 3) (hA : Hm E A) (gA : Gd A) (bA : Bd c A) (eA : sorted A = a :: A') (er : sorted rest = x :: r) (hn : nn3 (sub3 x.1 a.1)) (hd : x.2.fmod a.2 = 0) :
    x.2.fdiv a.2 ≠ 0 ∧ (x.2.fdiv a.2).natAbs ≤ 2 ^ b ∧ a.2 * x.2.fdiv a.2 = x.2 ∧ ∃ k', k = k' + 1 ∧ Dv D E (b + c + 1) k' (stepT A (sub3 x.1 a.1) (x.2.fdiv a.2) rest) (put found (sub3 x.1 a.1) (x.2.fdiv a.2)) := by
  obtain ⟨xm, xl⟩ := top_le v.gr.nd er
  obtain ⟨am, al⟩ := top_le gA.nd eA
  have xk : x.1 ∈ keys rest := List.mem_map_of_mem (f := (·.1)) xm
  have ak : a.1 ∈ keys A := List.mem_map_of_mem (f := (·.1)) am
  have dv : a.2 ∣ x.2 := Int.dvd_of_fmod_eq_zero hd
  have hm := mul_fdiv dv
  obtain ⟨n, en⟩ : ∃ n, n = x.2.fdiv a.2 := ⟨_, rfl⟩
  obtain ⟨p, ep⟩ : ∃ p, p = sub3 x.1 a.1 := ⟨_, rfl⟩
  have nb : n.natAbs ≤ 2 ^ b := by rw [en]; exact Nat.le_trans (fdiv_abs dv) (v.br x xm)
  rw [← en] at hm ⊢
  rw [← ep] at hn ⊢
  have n0 : n ≠ 0 := by
    intro z
    rw [z, Int.mul_zero] at hm
    exact v.gr.nz x xm hm.symm
  have hxp := v.hr.hom x.1 xk
  have hap := hA.hom a.1 ak
  have epa : add3 p a.1 = x.1 := by rw [ep]; exact add_sub3 _ _
  have psum : p.1 + p.2.1 + p.2.2 = D - E := by
    rw [ep]
    unfold sub3
    dsimp only
    omega
  have mk : ∀ q ∈ keys (mulT p n A), (0 ≤ q.1 ∧ 0 ≤ q.2.1 ∧ 0 ≤ q.2.2 ∧ q.1 + q.2.1 + q.2.2 = D) ∧ (Lt q x.1 ∨ q = x.1) := by
    intro q hq
    rw [mulT_keys] at hq
    obtain ⟨y, hy, rfl⟩ := List.mem_map.mp hq
    have := hA.hom y hy
    refine ⟨?_, ?_⟩
    · unfold nn3 at hn
      unfold add3
      dsimp only
      omega
    · have := add3_le (p := p) (al y hy)
      rw [epa] at this
      exact this
  have gs : Gd (stepT A p n rest) := gd_sumT v.gr.nd
  have hs : Hm D (stepT A p n rest) := hm_thin (hm_sumR _ v.hr fun q hq => (mk q hq).1)
  have cs : ∀ q, cf (stepT A p n rest) q = cf rest q - cf (mulT p n A) q := fun q => by rw [cf_stepT gA v.gr.nd p n0, cf_mulT gA p n0]
  have bm : ∀ z ∈ mulT p n A, z.2.natAbs ≤ 2 ^ b * 2 ^ c := by
    intro z hz
    obtain ⟨y, hy, rfl⟩ := List.mem_map.mp hz
    rw [Int.natAbs_mul]
    exact Nat.mul_le_mul nb (bA y hy)
  have e2 : 2 ^ (b + c + 1) = 2 * (2 ^ b * 2 ^ c) := by rw [Nat.pow_succ, Nat.pow_add]; omega
  have le1 : 2 ^ b ≤ 2 ^ b * 2 ^ c := Nat.le_mul_of_pos_right _ (Nat.two_pow_pos c)
  have lt : ∀ q ∈ keys (stepT A p n rest), Lt q x.1 := by
    intro q hq
    have h1 := (gs.key q).mp hq
    rw [cs] at h1
    by_cases w : q = x.1
    · subst w
      have e1 := cf_mem v.gr.nd xm
      have mm : (x.1, x.2) ∈ mulT p n A := List.mem_map.mpr ⟨a, am, by rw [epa, Int.mul_comm, hm]⟩
      have e2 := cf_mem (nd_mulT gA.nd p n) mm
      dsimp only at e2
      omega
    · by_cases w2 : q ∈ keys rest
      · rcases xl q w2 with z | z
        · exact z
        · exact absurd z w
      · by_cases w3 : q ∈ keys (mulT p n A)
        · rcases (mk q w3).2 with z | z
          · exact z
          · exact absurd z w
        · rw [cf_new w2, cf_new w3] at h1
          exact absurd rfl h1
  have cx := v.cd x.1 xk
  refine ⟨n0, nb, hm, k - 1, by omega, hs, gs, fun z hz => ?_, fun q hq => ?_, ⟨nd_put v.gf.nd _ _, fun q hq => ?_⟩, ⟨nd_put v.gf.nd _ _, fun z hz => ?_⟩, fun z hz => ?_⟩
  · rw [← cf_mem gs.nd hz, cs, e2]
    have h1 := cf_abs (b := b) v.br z.1
    have h2 := cf_abs (b := b) bm z.1
    have := Int.natAbs_sub_le (cf rest z.1) (cf (mulT p n A) z.1)
    omega
  · have := code_lt h3 (hs.hom q hq) hxp (lt q hq)
    omega
  · rw [keys_put] at hq
    have hp2 : 0 ≤ p.1 ∧ 0 ≤ p.2.1 ∧ 0 ≤ p.2.2 ∧ p.1 + p.2.1 + p.2.2 = D - E := ⟨hn.1, hn.2.1, hn.2.2, psum⟩
    split at hq
    · exact v.hf.hom q hq
    · rcases List.mem_append.mp hq with w | w
      · exact v.hf.hom q w
      · rw [List.mem_singleton.mp w]
        exact hp2
  · rcases mem_put hz with rfl | w
    · exact n0
    · exact v.gf.nz z w
  · rcases mem_put hz with rfl | w
    · show n.natAbs ≤ _
      omega
    · have := v.bf z w
      omega
theorem put_ne' (t : Tb) (p : P3) (n : Int) : put t p n ≠ [] := by
  intro z
  have : p ∈ keys (put t p n) := by
    rw [keys_put]
    split
    · assumption
    · simp
  rw [z] at this
  cases this
theorem divF_ok {D E : Int} {c : Nat} {A A' : Tb} {a : P3 × Int} (h3 : D ≤ 3) (hA : Hm E A) (gA : Gd A) (bA : Bd c A) (eA : sorted A = a :: A') : ∀ {k b : Nat} {rest found F : Tb}, Dv D E b k rest found → (rest ≠ [] ∨ found ≠ []) → divF a A k rest found = some F → Hm (D - E) F ∧ Gd F ∧ F ≠ [] ∧ Bd (b + (c + 1) * k) F
  | 0, b, rest, found, F, v, ne, h => by
    unfold divF at h
    cases er : sorted rest with
    | nil =>
      rw [er] at h
      cases h
      have : rest = [] := by
        by_cases z : rest = []
        · exact z
        · exact absurd er (sorted_ne z)
      exact ⟨v.hf, v.gf, ne.resolve_left fun w => w this, by simpa using v.bf⟩
    | cons x r =>
      rw [er] at h
      cases h
  | k + 1, b, rest, found, F, v, ne, h => by
    unfold divF at h
    cases er : sorted rest with
    | nil =>
      rw [er] at h
      cases h
      have : rest = [] := by
        by_cases z : rest = []
        · exact z
        · exact absurd er (sorted_ne z)
      exact ⟨v.hf, v.gf, ne.resolve_left fun w => w this, v.bf.mono (by omega)⟩
    | cons x r =>
      rw [er] at h
      dsimp only at h
      split at h
      · rename_i hh
        obtain ⟨n0, nb, hm, k', ek, v2⟩ := v.step h3 hA gA bA eA er hh.1 hh.2
        obtain rfl : k = k' := by omega
        obtain ⟨o1, o2, o3, o4⟩ := divF_ok h3 hA gA bA eA v2 (.inr (put_ne' _ _ _)) h
        refine ⟨o1, o2, o3, o4.mono ?_⟩
        rw [Nat.mul_succ]
        omega
      · cases h
/-- a product over one of both is the other one -/
theorem divF_all {A A' : Tb} {a : P3 × Int} (gA : Gd A) (eA : sorted A = a :: A') : ∀ {D : Tb} {k : Nat} {rest found : Tb}, D.length ≤ k → Gd rest → Gd D → (keys D).Pairwise (fun p q => Lt q p) → Nn D → (∀ q, cf rest q = psum D A q) → (∀ y ∈ D, y.1 ∉ keys found) → divF a A k rest found = some (found ++ D)
  | [], k, rest, found, hk, gr, _, _, _, hc, _ => by
    have : rest = [] := by
      cases rest with
      | nil => rfl
      | cons x r =>
        have h1 := (gr.key x.1).mp (by simp [keys])
        rw [hc] at h1
        exact absurd rfl h1
    subst this
    cases k <;> simp [divF, sorted]
  | y :: D, k, rest, found, hk, gr, gD, pw, nn, hc, hf => by
    obtain ⟨k, rfl⟩ : ∃ k', k = k' + 1 := ⟨k - 1, by simp at hk; omega⟩
    have pw' := pw
    unfold keys at pw'
    rw [List.map_cons, List.pairwise_cons] at pw'
    have yD : ∀ z ∈ y :: D, Lt z.1 y.1 ∨ z.1 = y.1 := fun z hz => by
      rcases List.mem_cons.mp hz with rfl | hz
      · exact .inr rfl
      · exact .inl (pw'.1 z.1 (List.mem_map_of_mem (f := (·.1)) hz))
    obtain ⟨am, al⟩ := top_le gA.nd eA
    have s1 := sorted_keys gA.nd
    rw [eA] at s1
    have top := psum_top pw s1
    have e : ∀ q, psum (y :: D) (a :: A') q = psum (y :: D) A q := fun q => by
      rw [← eA, psum_comm, psum_perm (sorted_perm A), psum_comm]
    rw [e, ← hc] at top
    have y0 : y.2 ≠ 0 := gD.nz y (by simp)
    have a0 : a.2 ≠ 0 := gA.nz a am
    have tk : add3 y.1 a.1 ∈ keys rest := (gr.key _).mpr (by rw [top]; exact Int.mul_ne_zero y0 a0)
    cases er : sorted rest with
    | nil =>
      have : rest ≠ [] := by
        intro z
        rw [z] at tk
        cases tk
      exact absurd er (sorted_ne this)
    | cons x r =>
      obtain ⟨xm, xl⟩ := top_le gr.nd er
      have ex : x.1 = add3 y.1 a.1 := by
        have h1 := (gr.key x.1).mp (List.mem_map_of_mem (f := (·.1)) xm)
        rw [hc] at h1
        obtain ⟨u, hu, w, hw, ew⟩ := psum_key h1
        have l1 := yD u hu
        have l2 := al w.1 (List.mem_map_of_mem (f := (·.1)) hw)
        rcases xl _ tk with z | z
        · exfalso
          rw [ew] at z
          unfold Lt at z l1 l2
          unfold add3 at z
          dsimp only at z
          rcases l1 with l1 | l1 <;> rcases l2 with l2 | l2
          · omega
          · rw [l2] at z; omega
          · rw [l1] at z; omega
          · rw [l1, l2] at z; omega
        · exact z.symm
      have ex2 : x.2 = y.2 * a.2 := by
        rw [← top, ← ex, cf_mem gr.nd xm]
      have ep : sub3 x.1 a.1 = y.1 := by
        rw [ex]
        unfold sub3 add3
        exact P3.eq (by dsimp only; omega) (by dsimp only; omega) (by dsimp only; omega)
      have em : x.2.fmod a.2 = 0 := by
        rw [ex2]
        exact Int.mul_fmod_left _ _
      have eq : x.2.fdiv a.2 = y.2 := by
        rw [ex2]
        exact Int.mul_fdiv_cancel _ a0
      have hn : nn3 (sub3 x.1 a.1) := by
        rw [ep]
        exact nn y.1 (by simp [keys])
      unfold divF
      rw [er]
      dsimp only
      rw [if_pos ⟨hn, em⟩, ep, eq]
      have hy := hf y (by simp)
      have kf : keys (put found y.1 y.2) = keys found ++ [y.1] := by rw [keys_put, if_neg hy]
      rw [divF_all (D := D) (rest := stepT A y.1 y.2 rest) gA eA (by simp at hk; omega) (gd_sumT gr.nd) ⟨(List.nodup_cons.mp gD.nd).2, fun z hz => gD.nz z (by simp [hz])⟩ pw'.2 (fun p hp => nn p (by simp [keys] at hp ⊢; exact .inr hp)) (fun q => by
        rw [cf_stepT gA gr.nd y.1 y0, hc, psum_cons]
        show rsum y A q + psum D A q - rsum y A q = _
        omega) (fun z hz => by
        rw [kf]
        intro w
        rcases List.mem_append.mp w with w | w
        · exact hf z (by simp [hz]) w
        · rw [List.mem_singleton] at w
          have := pw'.1 z.1 (List.mem_map_of_mem (f := (·.1)) hz)
          rw [w] at this
          exact Lt.irrefl _ this)]
      rw [put_new hy]
      simp
theorem cf_scale (e : Int) (p : P3) : ∀ t : Tb, cf (t.map fun x => (x.1, e * x.2)) p = e * cf t p
  | [] => by simp [cf_nil]
  | x :: t => by
    rw [List.map_cons, cf_cons, cf_cons, cf_scale e p t]
    dsimp only
    split <;> rfl
theorem over_norm {L R A' : Tb} {a : P3 × Int} (g : Gd L) (k : Gd R) (hL : L ≠ []) (hR : R ≠ []) (nn : Nn R) (hl : R.length ≤ 64) (eA : sorted (norm L) = a :: A') : ∃ F, divF a (norm L) 64 (norm (prod L R)) [] = some F ∧ norm F = norm R := by
  obtain ⟨e, he, h⟩ := norm_mul g k hL hR
  have ee : e * e = 1 := by rcases he with rfl | rfl <;> rfl
  have e0 : e ≠ 0 := by rcases he with rfl | rfl <;> decide
  have gR := gd_norm k
  have kD : keys ((norm R).map fun x => (x.1, e * x.2)) = keys (sorted R) := by
    rw [← norm_keys]
    unfold keys
    rw [List.map_map]
    rfl
  have gD : Gd ((norm R).map fun x => (x.1, e * x.2)) := ⟨by rw [kD, ← norm_keys]; exact gR.nd, fun x hx => by
    obtain ⟨y, hy, rfl⟩ := List.mem_map.mp hx
    exact Int.mul_ne_zero e0 (gR.nz y hy)⟩
  have hc : ∀ q, cf (norm (prod L R)) q = psum ((norm R).map fun x => (x.1, e * x.2)) (norm L) q := fun q => by
    have := psum_scale (t := norm R) (k := e) (f := fun x => e * x.2) (fun x _ => by rw [← Int.mul_assoc, ee, Int.one_mul]) (norm L) q
    rw [h, psum_comm, ← this, ← Int.mul_assoc, ee, Int.one_mul]
  refine ⟨_, divF_all (gd_norm g) eA ?_ (gd_norm (gd_prod L R)) gD ?_ (fun p hp => ?_) hc (by simp [keys]), ?_⟩
  · rw [List.length_map]
    unfold norm
    rw [List.length_map, (sorted_perm R).length_eq]
    exact hl
  · rw [kD]
    exact sorted_keys k.nd
  · rw [kD] at hp
    exact nn p (((sorted_perm R).map _).mem_iff.mp hp)
  · rw [List.nil_append]
    refine norm_eq gD k ?_ hR (α := div R) (β := e) (div_ne k hR) e0 fun p => ?_
    · intro z
      exact norm_ne hR (List.map_eq_nil_iff.mp z)
    · rw [cf_scale, ← cf_norm k]
      rw [← Int.mul_assoc, ← Int.mul_assoc, Int.mul_comm e]
end PM

set_option autoImplicit true
/-! D-layer, part a: data, what a value stands for, slots, the relation of a run's state to a plain state. -/
namespace DL
open PySem PySem.Spec PyProof.Rows L2
/-- plain data -/
inductive D where
  | non | bl (b : Bool) | int (i : Int) | str (x : Str)
  | tup (ds : List D) | lst (ds : List D)
  /-- the law's script -/
  | scr (ns : List Int)
  | dT (kvs : List (List Key × D)) | dK (kvs : List (Key × D))
  | obj (c : Str) (fs : List (Str × D))
  deriving Inhabited
mutual
/-- what value stands for the data, in the part F of the heap -/
def Rep (K : PySem.W.Frag) (mg : Str → Option Value) (F : Hp) : D → V → Prop
  | .non, v => v = .non
  | .bl b, v => v = .bl b
  | .int i, v => v = .int i
  | .str x, v => v = .str x
  | .tup ds, v => ∃ a vs, v = .ref a ∧ F a = some (.tup vs) ∧ Reps K mg F ds vs
  | .lst ds, v => ∃ a vs, v = .ref a ∧ F a = some (.lst vs) ∧ Reps K mg F ds vs
  | .scr ns, v => ∃ a, v = .ref a ∧ SqL K F a (ns.map V.int)
  | .dT kvs, v => ∃ a ws, v = .ref a ∧ Rd F a (.dT ws) ∧ RepT K mg F kvs ws
  | .dK kvs, v => ∃ a ws, v = .ref a ∧ Rd F a (.dK ws) ∧ RepK K mg F kvs ws
  | .obj c fs, v => ∃ a C dx ws, v = .ref a ∧ mg c = some (.ref C) ∧ F a = some (.ins C dx ws) ∧ RepF K mg F fs ws
def Reps (K : PySem.W.Frag) (mg : Str → Option Value) (F : Hp) : List D → List V → Prop
  | [], vs => vs = []
  | d :: ds, vs => ∃ v r, vs = v :: r ∧ Rep K mg F d v ∧ Reps K mg F ds r
def RepT (K : PySem.W.Frag) (mg : Str → Option Value) (F : Hp) : List (List Key × D) → List (List Key × V) → Prop
  | [], vs => vs = []
  | p :: ds, vs => ∃ v r, vs = (p.1, v) :: r ∧ Rep K mg F p.2 v ∧ RepT K mg F ds r
def RepK (K : PySem.W.Frag) (mg : Str → Option Value) (F : Hp) : List (Key × D) → List (Key × V) → Prop
  | [], vs => vs = []
  | p :: ds, vs => ∃ v r, vs = (p.1, v) :: r ∧ Rep K mg F p.2 v ∧ RepK K mg F ds r
def RepF (K : PySem.W.Frag) (mg : Str → Option Value) (F : Hp) : List (Str × D) → List (Str × V) → Prop
  | [], vs => vs = []
  | p :: ds, vs => ∃ v r, vs = (p.1, v) :: r ∧ Rep K mg F p.2 v ∧ RepF K mg F ds r
end
/-- what may be read stays to be read -/
structure Keeps (F F' : Hp) : Prop where
  tup : ∀ a xs, F a = some (.tup xs) → F' a = some (.tup xs)
  lst : ∀ a xs, F a = some (.lst xs) → F' a = some (.lst xs)
  rdl : ∀ a xs, Rd F a (.lst xs) → Rd F' a (.lst xs)
  dT : ∀ a xs, Rd F a (.dT xs) → Rd F' a (.dT xs)
  dK : ∀ a xs, Rd F a (.dK xs) → Rd F' a (.dK xs)
  ins : ∀ a C dx fs, F a = some (.ins C dx fs) → F' a = some (.ins C dx fs)
theorem Same.rd {F F' : Hp} (s : Same F F') {a : Addr} {o : HO} (h : Rd F a o) : Rd F' a o := by
  rcases h with h | ⟨u, h⟩
  · exact .inl (s _ _ h)
  · exact .inr ⟨u, s _ _ h⟩
theorem Same.keeps {F F' : Hp} (s : Same F F') : Keeps F F' :=
  ⟨fun _ _ h => s _ _ h, fun _ _ h => s _ _ h, fun _ _ h => Same.rd s h, fun _ _ h => Same.rd s h, fun _ _ h => Same.rd s h, fun _ _ _ _ h => s _ _ h⟩
theorem Keeps.trans {F F' F'' : Hp} (a : Keeps F F') (b : Keeps F' F'') : Keeps F F'' :=
  ⟨fun _ _ h => b.tup _ _ (a.tup _ _ h), fun _ _ h => b.lst _ _ (a.lst _ _ h), fun _ _ h => b.rdl _ _ (a.rdl _ _ h), fun _ _ h => b.dT _ _ (a.dT _ _ h), fun _ _ h => b.dK _ _ (a.dK _ _ h), fun _ _ _ _ h => b.ins _ _ _ _ (a.ins _ _ _ _ h)⟩
section
variable {K : PySem.W.Frag} {mg : Str → Option Value} {F F' : Hp}
theorem Keeps.sqL (k : Keeps F F') {a : Addr} {xs : List V} (h : SqL K F a xs) : SqL K F' a xs := h.elim (fun h => .inl (k.rdl _ _ h)) .inr
mutual
theorem Rep.keeps (k : Keeps F F') : ∀ (d : D) (v : V), Rep K mg F d v → Rep K mg F' d v
  | .non, _, h => h
  | .bl _, _, h => h
  | .int _, _, h => h
  | .str _, _, h => h
  | .tup ds, _, ⟨a, vs, e, s, r⟩ => ⟨a, vs, e, k.tup _ _ s, Reps.keeps k ds vs r⟩
  | .lst ds, _, ⟨a, vs, e, s, r⟩ => ⟨a, vs, e, k.lst _ _ s, Reps.keeps k ds vs r⟩
  | .scr ns, _, ⟨a, e, s⟩ => ⟨a, e, k.sqL s⟩
  | .dT kvs, _, ⟨a, vs, e, s, r⟩ => ⟨a, vs, e, k.dT _ _ s, RepT.keeps k kvs vs r⟩
  | .dK kvs, _, ⟨a, vs, e, s, r⟩ => ⟨a, vs, e, k.dK _ _ s, RepK.keeps k kvs vs r⟩
  | .obj c fs, _, ⟨a, C, dx, vs, e, m, s, r⟩ => ⟨a, C, dx, vs, e, m, k.ins _ _ _ _ s, RepF.keeps k fs vs r⟩
theorem Reps.keeps (k : Keeps F F') : ∀ (ds : List D) (vs : List V), Reps K mg F ds vs → Reps K mg F' ds vs
  | [], _, h => h
  | d :: ds, _, ⟨v, r, e, h, t⟩ => ⟨v, r, e, Rep.keeps k d v h, Reps.keeps k ds r t⟩
theorem RepT.keeps (k : Keeps F F') : ∀ (ds : List (List Key × D)) (vs : List (List Key × V)), RepT K mg F ds vs → RepT K mg F' ds vs
  | [], _, h => h
  | p :: ds, _, ⟨v, r, e, h, t⟩ => ⟨v, r, e, Rep.keeps k p.2 v h, RepT.keeps k ds r t⟩
theorem RepK.keeps (k : Keeps F F') : ∀ (ds : List (Key × D)) (vs : List (Key × V)), RepK K mg F ds vs → RepK K mg F' ds vs
  | [], _, h => h
  | p :: ds, _, ⟨v, r, e, h, t⟩ => ⟨v, r, e, Rep.keeps k p.2 v h, RepK.keeps k ds r t⟩
theorem RepF.keeps (k : Keeps F F') : ∀ (ds : List (Str × D)) (vs : List (Str × V)), RepF K mg F ds vs → RepF K mg F' ds vs
  | [], _, h => h
  | p :: ds, _, ⟨v, r, e, h, t⟩ => ⟨v, r, e, Rep.keeps k p.2 v h, RepF.keeps k ds r t⟩
end
/-! lists of data -/
theorem Reps.nil : Reps K mg F [] [] := by unfold Reps; rfl
theorem Reps.cons {d : D} {v : V} {ds : List D} {vs : List V} (h : Rep K mg F d v) (t : Reps K mg F ds vs) : Reps K mg F (d :: ds) (v :: vs) := by
  unfold Reps; exact ⟨v, vs, rfl, h, t⟩
theorem Reps.uncons {d : D} {v : V} {ds : List D} {vs : List V} (h : Reps K mg F (d :: ds) (v :: vs)) : Rep K mg F d v ∧ Reps K mg F ds vs := by
  unfold Reps at h
  obtain ⟨v', r, e, h, t⟩ := h
  cases e
  exact ⟨h, t⟩
theorem Reps.len : ∀ {ds : List D} {vs : List V}, Reps K mg F ds vs → ds.length = vs.length
  | [], vs, h => by unfold Reps at h; subst h; rfl
  | d :: ds, vs, h => by
    unfold Reps at h
    obtain ⟨v, r, e, h, t⟩ := h
    subst e
    simp [Reps.len t]
theorem Reps.get : ∀ {ds : List D} {vs : List V} {i : Nat} {d : D}, Reps K mg F ds vs → ds[i]? = some d → ∃ v, vs[i]? = some v ∧ Rep K mg F d v
  | [], _, _, _, _, e => by simp at e
  | d :: ds, vs, i, x, h, e => by
    unfold Reps at h
    obtain ⟨v, r, e1, h, t⟩ := h
    subst e1
    cases i with
    | zero => simp at e; subst e; exact ⟨v, rfl, h⟩
    | succ i => simpa using Reps.get t (by simpa using e)
theorem Reps.getV {ds : List D} {vs : List V} {i : Nat} {v : V} (h : Reps K mg F ds vs) (e : vs[i]? = some v) : ∃ d, ds[i]? = some d ∧ Rep K mg F d v := by
  have hl := h.len
  have hi : i < ds.length := by
    have := (List.getElem?_eq_some_iff.mp e).1
    omega
  obtain ⟨v', e', r⟩ := h.get (i := i) (d := ds[i]) (List.getElem?_eq_getElem hi)
  rw [e] at e'
  cases e'
  exact ⟨ds[i], List.getElem?_eq_getElem hi, r⟩
theorem Reps.append : ∀ {ds es : List D} {vs us : List V}, Reps K mg F ds vs → Reps K mg F es us → Reps K mg F (ds ++ es) (vs ++ us)
  | [], _, vs, _, h, t => by unfold Reps at h; subst h; exact t
  | d :: ds, es, vs, us, h, t => by
    unfold Reps at h
    obtain ⟨v, r, e, h, t'⟩ := h
    subst e
    exact .cons h (Reps.append t' t)
theorem Reps.take : ∀ {ds : List D} {vs : List V} (n : Nat), Reps K mg F ds vs → Reps K mg F (ds.take n) (vs.take n)
  | ds, vs, 0, _ => by simpa using Reps.nil
  | [], vs, n + 1, h => by unfold Reps at h; subst h; exact .nil
  | d :: ds, vs, n + 1, h => by
    unfold Reps at h
    obtain ⟨v, r, e, h, t⟩ := h
    subst e
    exact .cons h (Reps.take n t)
theorem Reps.drop : ∀ {ds : List D} {vs : List V} (n : Nat), Reps K mg F ds vs → Reps K mg F (ds.drop n) (vs.drop n)
  | ds, vs, 0, h => by simpa using h
  | [], vs, n + 1, h => by unfold Reps at h; subst h; exact .nil
  | d :: ds, vs, n + 1, h => by
    unfold Reps at h
    obtain ⟨v, r, e, h, t⟩ := h
    subst e
    exact Reps.drop n t
theorem Reps.set : ∀ {ds : List D} {vs : List V} {d : D} {v : V} (i : Nat), Reps K mg F ds vs → Rep K mg F d v → Reps K mg F (ds.set i d) (vs.set i v)
  | [], vs, _, _, _, h, _ => by unfold Reps at h; subst h; exact .nil
  | x :: ds, vs, d, v, i, h, q => by
    unfold Reps at h
    obtain ⟨w, r, e, h, t⟩ := h
    subst e
    cases i with
    | zero => exact .cons q t
    | succ i => exact .cons h (Reps.set i t q)
theorem Reps.eraseIdx : ∀ {ds : List D} {vs : List V} (i : Nat), Reps K mg F ds vs → Reps K mg F (ds.eraseIdx i) (vs.eraseIdx i)
  | [], vs, _, h => by unfold Reps at h; subst h; exact .nil
  | x :: ds, vs, i, h => by
    unfold Reps at h
    obtain ⟨w, r, e, h, t⟩ := h
    subst e
    cases i with
    | zero => exact t
    | succ i => exact .cons h (Reps.eraseIdx i t)
theorem Reps.reverse : ∀ {ds : List D} {vs : List V}, Reps K mg F ds vs → Reps K mg F ds.reverse vs.reverse
  | [], vs, h => by unfold Reps at h; subst h; exact .nil
  | x :: ds, vs, h => by
    unfold Reps at h
    obtain ⟨w, r, e, h, t⟩ := h
    subst e
    rw [List.reverse_cons, List.reverse_cons]
    exact .append (Reps.reverse t) (.cons h .nil)
theorem Reps.ints : ∀ {is : List Int} {vs : List V}, Reps K mg F (is.map D.int) vs → vs = is.map V.int
  | [], vs, h => by
    rw [List.map_nil] at h
    unfold Reps at h; exact h
  | i :: is, vs, h => by
    rw [List.map_cons] at h
    unfold Reps at h
    obtain ⟨w, r, e, h, t⟩ := h
    unfold Rep at h
    rw [e, h, Reps.ints t]; rfl
theorem Reps.of_ints : ∀ (is : List Int), Reps K mg F (is.map D.int) (is.map V.int)
  | [] => .nil
  | i :: is => .cons (by unfold Rep; rfl) (Reps.of_ints is)
theorem Reps.strs : ∀ {is : List Str} {vs : List V}, Reps K mg F (is.map D.str) vs → vs = is.map V.str
  | [], vs, h => by
    rw [List.map_nil] at h
    unfold Reps at h; exact h
  | i :: is, vs, h => by
    rw [List.map_cons] at h
    unfold Reps at h
    obtain ⟨w, r, e, h, t⟩ := h
    unfold Rep at h
    rw [e, h, Reps.strs t]; rfl
theorem Reps.of_strs : ∀ (is : List Str), Reps K mg F (is.map D.str) (is.map V.str)
  | [] => .nil
  | i :: is => .cons (by unfold Rep; rfl) (Reps.of_strs is)
theorem Reps.bls : ∀ {is : List Bool} {vs : List V}, Reps K mg F (is.map D.bl) vs → vs = is.map V.bl
  | [], vs, h => by
    rw [List.map_nil] at h
    unfold Reps at h; exact h
  | i :: is, vs, h => by
    rw [List.map_cons] at h
    unfold Reps at h
    obtain ⟨w, r, e, h, t⟩ := h
    unfold Rep at h
    rw [e, h, Reps.bls t]; rfl
end
end DL

set_option autoImplicit true
/-! D-layer, part b: slots, the relation, results, judgements. -/
namespace DL
open PySem PySem.Spec PyProof.Rows L2
set_option autoImplicit false
abbrev St := L2.St
/-- what a slot owns: an object that this run may change -/
inductive Own where
  | l (ds : List D) | T (kvs : List (List Key × D)) | K (kvs : List (Key × D)) | o (c : Str) (fs : List (Str × D))
  deriving Inhabited
def Own.d : Own → D
  | .l ds => .lst ds
  | .T kvs => .dT kvs
  | .K kvs => .dK kvs
  | .o c fs => .obj c fs
inductive Slot where
  /-- not known -/
  | no
  /-- shared data, never changed again -/
  | sh (d : D)
  /-- owned; io: by a parameter whose object the caller owns -/
  | ow (io : Bool) (x : Own)
  /-- locked: it stays, and may not be looked at -/
  | lk
  deriving Inhabited
def Slot.isOw : Slot → Bool
  | .ow _ _ => true
  | _ => false
def Slot.pin : Slot → Bool
  | .ow io _ => io
  | .lk => true
  | _ => false
abbrev DS := List Slot
section
variable (K : PySem.W.Frag) (mg : Str → Option Value)
def OwnObj (F : Hp) : Own → HO → Prop
  | .l ds, o => ∃ vs, o = .lst vs ∧ Reps K mg F ds vs
  | .T kvs, o => ∃ ws, o = .dT ws ∧ RepT K mg F kvs ws
  | .K kvs, o => ∃ ws, o = .dK ws ∧ RepK K mg F kvs ws
  | .o c fs, o => ∃ C dx ws, mg c = some (.ref C) ∧ o = .ins C dx ws ∧ RepF K mg F fs ws
/-- the value v stands for the slot -/
def SlotOk (F H : Hp) (v : V) : Slot → Prop
  | .no => True
  | .sh d => Rep K mg F d v
  | .ow _ x => ∃ p o, v = .ref p ∧ F p = none ∧ H p = some o ∧ OwnObj K mg F x o
  | .lk => True
/-- where a run began: F0 shared data, H0 the heap, io: slots whose objects stay theirs, ow: objects that may change -/
structure Base where
  F0 : Hp
  H0 : Hp
  io : Nat → Option Addr
  ow : Addr → Prop
structure Rel (B : Base) (F H : Hp) (σ : St) (ds : DS) : Prop where
  sub : Same F H
  ext : Same B.F0 F
  new : ∀ a o, F a = some o → (∃ xs, o = .tup xs) ∨ B.F0 a = some o ∨ B.H0 a = none ∨ B.ow a
  frame : ∀ a o, B.H0 a = some o → ¬ B.ow a → H a = some o
  len : σ.length = ds.length
  slot : ∀ (i : Nat) s, ds[i]? = some s → s = .no ∨ ∃ v, σ[i]? = some (some v) ∧ SlotOk K mg F H v s
  apart : ∀ (i j : Nat) x y p, i ≠ j → ds[i]? = some x → ds[j]? = some y → x.isOw = true → y.isOw = true → σ[i]? = some (some (.ref p)) → σ[j]? = some (some (.ref p)) → False
  pin : ∀ (i : Nat) s, ds[i]? = some s → s.pin = true → ∃ p, B.io i = some p ∧ σ[i]? = some (some (.ref p))
  io : ∀ i p, B.io i = some p → ∃ s, ds[i]? = some s ∧ s.pin = true
  onew : ∀ (i : Nat) s p, ds[i]? = some s → s.isOw = true → σ[i]? = some (some (.ref p)) → B.H0 p = none ∨ B.ow p
end
section
variable {K : PySem.W.Frag} {mg : Str → Option Value} {B : Base} {F F' H H' : Hp} {σ : St} {ds : DS}
theorem OwnObj.keeps (k : Keeps F F') : ∀ {x : Own} {o : HO}, OwnObj K mg F x o → OwnObj K mg F' x o
  | .l _, _, ⟨vs, e, r⟩ => ⟨vs, e, Reps.keeps k _ _ r⟩
  | .T _, _, ⟨vs, e, r⟩ => ⟨vs, e, RepT.keeps k _ _ r⟩
  | .K _, _, ⟨vs, e, r⟩ => ⟨vs, e, RepK.keeps k _ _ r⟩
  | .o _ _, _, ⟨C, dx, vs, m, e, r⟩ => ⟨C, dx, vs, m, e, RepF.keeps k _ _ r⟩
theorem OwnObj.rep {x : Own} {o : HO} {p : Addr} (h : OwnObj K mg F x o) (hp : F p = some o) : Rep K mg F x.d (.ref p) := by
  cases x with
  | l ds => obtain ⟨vs, e, r⟩ := h; subst e; unfold Own.d Rep; exact ⟨p, vs, rfl, hp, r⟩
  | T ds => obtain ⟨vs, e, r⟩ := h; subst e; unfold Own.d Rep; exact ⟨p, vs, rfl, .inl hp, r⟩
  | K ds => obtain ⟨vs, e, r⟩ := h; subst e; unfold Own.d Rep; exact ⟨p, vs, rfl, .inl hp, r⟩
  | o c fs => obtain ⟨C, dx, vs, m, e, r⟩ := h; subst e; unfold Own.d Rep; exact ⟨p, C, dx, vs, rfl, m, hp, r⟩
theorem same_upd {H : Hp} {p : Addr} {o : HO} (h : H p = none) : Same H (upd H p o) := fun b x e => by
  rw [upd_ne (ne_of_none e h)]
  exact e
theorem Same.none {H H' : Hp} (s : Same H H') {p : Addr} (h : H' p = none) : H p = none := s.free h
theorem SlotOk.keeps (k : Same F F') (hn : ∀ p, F p = none → (∃ o, H p = some o) → F' p = none) (hk : ∀ p o, F p = none → H p = some o → H' p = some o) {v : V} {s : Slot} (h : SlotOk K mg F H v s) : SlotOk K mg F' H' v s := by
  cases s with
  | no => trivial
  | sh d => exact Rep.keeps (Same.keeps k) d v h
  | lk => trivial
  | ow io x =>
    obtain ⟨p, o, e, f, hp, q⟩ := h
    exact ⟨p, o, e, hn p f ⟨o, hp⟩, hk p o f hp, q.keeps (Same.keeps k)⟩
theorem Rel.fresh0 (r : Rel K mg B F H σ ds) {p : Addr} (hp : H p = none) : B.H0 p = none ∨ B.ow p := by
  cases q : B.H0 p with
  | none => exact .inl rfl
  | some o =>
    refine .inr (Classical.byContradiction fun z => ?_)
    have := r.frame p o q z
    rw [hp] at this
    cases this
/-- a new object, shared -/
theorem Rel.alloc (r : Rel K mg B F H σ ds) {p : Addr} {o : HO} (hp : H p = none) : Rel K mg B (upd F p o) (upd H p o) σ ds := by
  have fp : F p = none := Same.none r.sub hp
  have ss : Same F (upd F p o) := same_upd fp
  refine ⟨fun a u e => ?_, r.ext.trans ss, fun a u e => ?_, fun a u e n => ?_, r.len, fun i s e => ?_, r.apart, r.pin, r.io, r.onew⟩
  · by_cases z : a = p
    · subst z; rw [upd_same] at e; rw [upd_same]; exact e
    · rw [upd_ne z] at e; rw [upd_ne z]; exact r.sub a u e
  · by_cases z : a = p
    · subst z; exact .inr (.inr (r.fresh0 hp))
    · rw [upd_ne z] at e; exact r.new a u e
  · have h := r.frame a u e n
    rw [upd_ne (ne_of_none h hp)]; exact h
  · refine (r.slot i s e).imp id fun ⟨v, e2, q⟩ => ⟨v, e2, q.keeps ss (fun a n z => ?_) fun a u n hu => ?_⟩
    · obtain ⟨u, hu⟩ := z
      rw [upd_ne (ne_of_none hu hp)]; exact n
    · rw [upd_ne (ne_of_none hu hp)]; exact hu
/-- a new object, not shared -/
theorem Rel.allocH (r : Rel K mg B F H σ ds) {p : Addr} {o : HO} (hp : H p = none) : Rel K mg B F (upd H p o) σ ds := by
  refine ⟨fun a u e => ?_, r.ext, r.new, fun a u e n => ?_, r.len, fun i s e => ?_, r.apart, r.pin, r.io, r.onew⟩
  · have h := r.sub a u e
    rw [upd_ne (ne_of_none h hp)]; exact h
  · have h := r.frame a u e n
    rw [upd_ne (ne_of_none h hp)]; exact h
  · refine (r.slot i s e).imp id fun ⟨v, e2, q⟩ => ⟨v, e2, q.keeps (Same.refl F) (fun a n _ => n) fun a u n hu => ?_⟩
    rw [upd_ne (ne_of_none hu hp)]; exact hu
/-- an object that no slot owns and none shares is shared -/
theorem Rel.share (r : Rel K mg B F H σ ds) {p : Addr} {o : HO} (hf : F p = none) (hp : H p = some o) (h0 : B.H0 p = none ∨ B.ow p) (hn : ∀ (i : Nat) s, ds[i]? = some s → s.isOw = true → σ[i]? ≠ some (some (.ref p))) : Rel K mg B (upd F p o) H σ ds := by
  have ss : Same F (upd F p o) := same_upd hf
  refine ⟨fun a u e => ?_, r.ext.trans ss, fun a u e => ?_, r.frame, r.len, fun i s e => ?_, r.apart, r.pin, r.io, r.onew⟩
  · by_cases z : a = p
    · subst z; rw [upd_same] at e; cases e; exact hp
    · rw [upd_ne z] at e; exact r.sub a u e
  · by_cases z : a = p
    · subst z; exact .inr (.inr h0)
    · rw [upd_ne z] at e; exact r.new a u e
  · refine (r.slot i s e).imp id fun ⟨v, e2, q⟩ => ⟨v, e2, ?_⟩
    cases s with
    | no => trivial
    | sh d => exact Rep.keeps (Same.keeps ss) d v q
    | lk => trivial
    | ow io x =>
      obtain ⟨p', o', ev, f, hp', q⟩ := q
      subst ev
      have ne : p' ≠ p := fun z => hn i _ e rfl (by rw [e2, z])
      exact ⟨p', o', rfl, by rw [upd_ne ne]; exact f, hp', q.keeps (Same.keeps ss)⟩
theorem OwnObj.notTup {x : Own} {xs : List V} (h : OwnObj K mg F x (.tup xs)) : False := by
  cases x with
  | l ds => obtain ⟨vs, e, r⟩ := h; cases e
  | T ds => obtain ⟨vs, e, r⟩ := h; cases e
  | K ds => obtain ⟨vs, e, r⟩ := h; cases e
  | o c fs => obtain ⟨C, dx, vs, m, e, r⟩ := h; cases e
/-- a tuple is shared -/
theorem Rel.shareTup (r : Rel K mg B F H σ ds) {p : Addr} {xs : List V} (hp : H p = some (.tup xs)) : Rel K mg B (upd F p (.tup xs)) H σ ds ∧ Same F (upd F p (.tup xs)) := by
  have ss : Same F (upd F p (.tup xs)) := fun a u e => by
    by_cases z : a = p
    · subst z; rw [r.sub _ _ e] at hp; cases hp; exact upd_same
    · rw [upd_ne z]; exact e
  refine ⟨⟨fun a u e => ?_, r.ext.trans ss, fun a u e => ?_, r.frame, r.len, fun i s e => ?_, r.apart, r.pin, r.io, r.onew⟩, ss⟩
  · by_cases z : a = p
    · subst z; rw [upd_same] at e; cases e; exact hp
    · rw [upd_ne z] at e; exact r.sub a u e
  · by_cases z : a = p
    · subst z; rw [upd_same] at e; cases e; exact .inl ⟨_, rfl⟩
    · rw [upd_ne z] at e; exact r.new a u e
  · refine (r.slot i s e).imp id fun ⟨v, e2, q⟩ => ⟨v, e2, ?_⟩
    cases s with
    | no => trivial
    | sh d => exact Rep.keeps (Same.keeps ss) d v q
    | lk => trivial
    | ow io x =>
      obtain ⟨p', o', ev, f, h', q⟩ := q
      have ne : p' ≠ p := fun z => by
        subst z
        rw [hp] at h'
        cases h'
        exact q.notTup
      exact ⟨p', o', ev, by rw [upd_ne ne]; exact f, h', q.keeps (Same.keeps ss)⟩
/-- a slot's object, as it is owned -/
theorem Rel.owned (r : Rel K mg B F H σ ds) {i : Nat} {io : Bool} {x : Own} (e : ds[i]? = some (.ow io x)) : ∃ p o, σ[i]? = some (some (.ref p)) ∧ F p = none ∧ H p = some o ∧ OwnObj K mg F x o := by
  rcases r.slot i _ e with z | ⟨v, e2, p, o, ev, f, hp, q⟩
  · cases z
  · subst ev; exact ⟨p, o, e2, f, hp, q⟩
theorem Rel.shared (r : Rel K mg B F H σ ds) {i : Nat} {d : D} (e : ds[i]? = some (.sh d)) : ∃ v, σ[i]? = some (some v) ∧ Rep K mg F d v := by
  rcases r.slot i _ e with z | ⟨v, e2, q⟩
  · cases z
  · exact ⟨v, e2, q⟩
/-- a slot is forgotten, or told otherwise where its object is left -/
theorem Rel.setSlot (r : Rel K mg B F H σ ds) {i : Nat} {v : V} {s' : Slot} (hi : ∀ s, ds[i]? = some s → s.pin = false) (hp' : s'.pin = false) (ho : s'.isOw = false ∨ ∃ p, v = .ref p ∧ (B.H0 p = none ∨ B.ow p) ∧ ∀ (j : Nat) y, j ≠ i → ds[j]? = some y → y.isOw = true → σ[j]? ≠ some (some (.ref p)))
    (q : SlotOk K mg F H v s') : Rel K mg B F H (σ.set i (some v)) (ds.set i s') := by
  have key : ∀ {j s}, (ds.set i s')[j]? = some s → (j = i ∧ s = s' ∧ (σ.set i (some v))[j]? = some (some v)) ∨ (j ≠ i ∧ ds[j]? = some s ∧ (σ.set i (some v))[j]? = σ[j]?) := fun {j s} e => by
    by_cases z : j = i
    · subst z
      have hl : j < ds.length := by
        have := (List.getElem?_eq_some_iff.mp e).1
        simpa using this
      rw [List.getElem?_set_self hl] at e
      refine .inl ⟨rfl, (Option.some.inj e).symm, ?_⟩
      rw [List.getElem?_set_self (by rw [r.len]; exact hl)]
    · rw [List.getElem?_set_ne (Ne.symm z)] at e
      refine .inr ⟨z, e, ?_⟩
      rw [List.getElem?_set_ne (Ne.symm z)]
  refine ⟨r.sub, r.ext, r.new, r.frame, by simp [r.len], fun j s e => ?_, fun j k x y p hjk ex ey ox oy e1 e2 => ?_, fun j s e hp => ?_, fun j p e => ?_, fun j s p e hs e1 => ?_⟩
  · rcases key e with ⟨rfl, rfl, e2⟩ | ⟨z, e1, e2⟩
    · exact .inr ⟨v, e2, q⟩
    · rw [e2]; exact r.slot j s e1
  · rcases key ex with ⟨z1, rfl, e3⟩ | ⟨z1, e3, e3'⟩
    · rcases key ey with ⟨z2, _, _⟩ | ⟨z2, e4, e4'⟩
      · exact hjk (z1.trans z2.symm)
      · rcases ho with h | ⟨p', ev, _, h⟩
        · rw [h] at ox; cases ox
        · rw [e3] at e1
          cases e1
          cases ev
          rw [e4'] at e2
          exact h k y z2 e4 oy e2
    · rcases key ey with ⟨z2, rfl, e4⟩ | ⟨z2, e4, e4'⟩
      · rcases ho with h | ⟨p', ev, _, h⟩
        · rw [h] at oy; cases oy
        · rw [e4] at e2
          cases e2
          cases ev
          rw [e3'] at e1
          exact h j x z1 e3 ox e1
      · rw [e3'] at e1; rw [e4'] at e2
        exact r.apart j k x y p hjk e3 e4 ox oy e1 e2
  · rcases key e with ⟨rfl, rfl, e2⟩ | ⟨z, e1, e2⟩
    · rw [hp'] at hp; cases hp
    · rw [e2]; exact r.pin j s e1 hp
  · obtain ⟨s, e1, e2⟩ := r.io j p e
    have z : j ≠ i := fun z => by
      subst z
      rw [hi s e1] at e2; cases e2
    exact ⟨s, by rw [List.getElem?_set_ne (Ne.symm z)]; exact e1, e2⟩
  · rcases key e with ⟨rfl, rfl, e2⟩ | ⟨z, e2, e3⟩
    · rcases ho with h | ⟨p', ev, h0, _⟩
      · rw [h] at hs; cases hs
      · rw [e2] at e1
        cases e1
        cases ev
        exact h0
    · rw [e3] at e1
      exact r.onew j s p e2 hs e1
/-- the owned object of slot i is told anew, its object changed -/
theorem Rel.mutate (r : Rel K mg B F H σ ds) {i : Nat} {io : Bool} {x x' : Own} {p : Addr} {o' : HO} (e : ds[i]? = some (.ow io x)) (ep : σ[i]? = some (some (.ref p))) (q : OwnObj K mg F x' o') :
    Rel K mg B F (upd H p o') σ (ds.set i (.ow io x')) := by
  obtain ⟨p1, o1, e1, f1, h1, q1⟩ := r.owned e
  rw [ep] at e1
  cases e1
  have key : ∀ {j s}, (ds.set i (.ow io x'))[j]? = some s → (j = i ∧ s = .ow io x') ∨ (j ≠ i ∧ ds[j]? = some s) := fun {j s} e => by
    by_cases z : j = i
    · subst z
      have hl : j < ds.length := by
        have := (List.getElem?_eq_some_iff.mp e).1
        simpa using this
      rw [List.getElem?_set_self hl] at e
      exact .inl ⟨rfl, (Option.some.inj e).symm⟩
    · rw [List.getElem?_set_ne (Ne.symm z)] at e
      exact .inr ⟨z, e⟩
  have was : ∀ {j : Nat} {s : Slot}, (ds.set i (.ow io x'))[j]? = some s → ∃ s0 : Slot, ds[j]? = some s0 ∧ s0.isOw = s.isOw ∧ s0.pin = s.pin := fun {j s} e' => by
    rcases key e' with ⟨rfl, rfl⟩ | ⟨_, e2⟩
    · exact ⟨_, e, rfl, rfl⟩
    · exact ⟨s, e2, rfl, rfl⟩
  refine ⟨fun a u h => ?_, r.ext, r.new, fun a u h n => ?_, by simp [r.len], fun j s e' => ?_, fun j k a b p' hjk ea eb oa ob e2 e3 => ?_, fun j s e' hp => ?_, fun j p' e' => ?_, fun j s p' e' hs e2 => ?_⟩
  · have ne : a ≠ p := fun z => by rw [z, f1] at h; cases h
    rw [upd_ne ne]; exact r.sub a u h
  · have hh := r.frame a u h n
    by_cases z : a = p
    · subst z
      rcases r.onew i _ a e rfl ep with h0 | h0
      · rw [h0] at h; cases h
      · exact absurd h0 n
    · rw [upd_ne z]; exact hh
  · rcases key e' with ⟨rfl, rfl⟩ | ⟨z, e2⟩
    · exact .inr ⟨.ref p, ep, p, o', rfl, f1, upd_same, q⟩
    · refine (r.slot j s e2).imp id fun ⟨v, e3, q3⟩ => ⟨v, e3, ?_⟩
      cases s with
      | no => trivial
      | sh d => exact q3
      | lk => trivial
      | ow io2 y =>
        obtain ⟨p2, o2, ev, f2, h2, q2⟩ := q3
        subst ev
        have ne : p2 ≠ p := fun zz => by
          subst zz
          exact r.apart j i _ _ p2 z e2 e rfl rfl e3 ep
        exact ⟨p2, o2, rfl, f2, by rw [upd_ne ne]; exact h2, q2⟩
  · obtain ⟨a', ea', oa', _⟩ := was ea
    obtain ⟨b', eb', ob', _⟩ := was eb
    exact r.apart j k a' b' p' hjk ea' eb' (by rw [oa']; exact oa) (by rw [ob']; exact ob) e2 e3
  · obtain ⟨s0, e0, _, hp0⟩ := was e'
    exact r.pin j s0 e0 (by rw [hp0]; exact hp)
  · obtain ⟨s, e1, e2⟩ := r.io j p' e'
    by_cases z : j = i
    · subst z
      rw [e] at e1
      cases e1
      refine ⟨.ow io x', ?_, e2⟩
      rw [List.getElem?_set_self (List.getElem?_eq_some_iff.mp e).1]
    · exact ⟨s, by rw [List.getElem?_set_ne (Ne.symm z)]; exact e1, e2⟩
  · obtain ⟨s0, e0, o0, _⟩ := was e'
    exact r.onew j s0 p' e0 (by rw [o0]; exact hs) e2
/-- what a slot owns is shared from now on -/
theorem Rel.freeze (r : Rel K mg B F H σ ds) {i : Nat} {x : Own} (e : ds[i]? = some (.ow false x)) : ∃ p o, σ[i]? = some (some (.ref p)) ∧ F p = none ∧ Rel K mg B (upd F p o) H σ (ds.set i (.sh x.d)) ∧ Rep K mg (upd F p o) x.d (.ref p) := by
  obtain ⟨p, o, ep, f, hp, q⟩ := r.owned e
  have ss : Same F (upd F p o) := same_upd f
  have rp : Rep K mg (upd F p o) x.d (.ref p) := (q.keeps (Same.keeps ss)).rep upd_same
  have hl := (List.getElem?_eq_some_iff.mp e).1
  -- the slot is told nothing of, then p is shared, then it is told
  have hset : σ.set i (some (.ref p)) = σ := by
    apply List.ext_getElem?
    intro j
    by_cases z : j = i
    · subst z
      rw [List.getElem?_set_self (by rw [r.len]; exact hl), ep]
    · rw [List.getElem?_set_ne (Ne.symm z)]
  have r1 : Rel K mg B F H σ (ds.set i .no) := by
    have := r.setSlot (i := i) (v := .ref p) (s' := .no) (fun s es => by rw [e] at es; cases es; rfl) rfl (.inl rfl) trivial
    rw [hset] at this
    exact this
  have r2 : Rel K mg B (upd F p o) H σ (ds.set i .no) := by
    refine r1.share f hp (r.onew i _ p e rfl ep) fun j s ej hj ejp => ?_
    by_cases z : j = i
    · subst z
      rw [List.getElem?_set_self hl] at ej
      cases ej; cases hj
    · rw [List.getElem?_set_ne (Ne.symm z)] at ej
      exact r.apart j i _ _ p z ej e hj rfl ejp ep
  have r3 := r2.setSlot (i := i) (v := .ref p) (s' := .sh x.d) (fun s es => by
    rw [List.getElem?_set_self hl] at es
    cases es; rfl) rfl (.inl rfl) rp
  rw [hset, List.set_set] at r3
  exact ⟨p, o, ep, f, r3, rp⟩
end
/-! ### results -/
/-- an exception: its class's name, its field -/
structure Exn where
  c : Str
  f : Option (Str × D)
  deriving Inhabited
inductive Res (α : Type) where
  | ok (a : α) (s : DS)
  | ex (x : Exn) (s : DS)
  | bad
  deriving Inhabited
def Res.bind {α β : Type} (r : Res α) (k : α → DS → Res β) : Res β := match r with
  | .ok a s => k a s
  | .ex x s => .ex x s
  | .bad => .bad
@[simp] theorem Res.bind_ok {α β : Type} {a : α} {s : DS} {k : α → DS → Res β} : (Res.ok a s).bind k = k a s := rfl
@[simp] theorem Res.bind_ex {α β : Type} {x : Exn} {s : DS} {k : α → DS → Res β} : (Res.ex x s : Res α).bind k = .ex x s := rfl
@[simp] theorem Res.bind_bad {α β : Type} {k : α → DS → Res β} : (Res.bad : Res α).bind k = .bad := rfl
inductive Fl where
  | nx | rt (d : D) | bk | ct
  deriving Inhabited
section
variable (K : PySem.W.Frag) (mg : Str → Option Value)
/-- the exception as it leaves -/
def ExcOk (F : Hp) (x : Exn) (cls : Value) (dd : Option Addr) : Prop := (∃ C, mg x.c = some (.ref C) ∧ cls = .ref C) ∧ (match x.f with
  | none => dd = none
  | some (n, d) => ∃ a v, dd = some a ∧ F a = some (.xd [(n, v)]) ∧ Rep K mg F d v)
/-- what follows a result: good, raised -/
def Post {α : Type} (B : Base) (F : Hp) (r : Res α) (good : α → DS → Prop) (bad : Exn → DS → Prop) : Prop := match r with
  | .ok a s => good a s
  | .ex x s => bad x s
  | .bad => False
theorem Post.of {α : Type} {B : Base} {F : Hp} {r : Res α} {g : α → DS → Prop} {b : Exn → DS → Prop} (h : Post B F r g b) : (∃ a s, r = .ok a s ∧ g a s) ∨ ∃ x s, r = .ex x s ∧ b x s := by
  cases r with
  | ok a s => exact .inl ⟨a, s, rfl, h⟩
  | ex x s => exact .inr ⟨x, s, rfl, h⟩
  | bad => exact h.elim
/-- raised at these slots -/
def Raised (B : Base) (F : Hp) (W : WX) (σ : St) (x : Exn) (s : DS) : Prop := ∀ cls dd F' H', Rel K mg B F' H' σ s → Same F F' → ExcOk K mg F' x cls dd → W cls dd σ H'
/-- an expression does what f does -/
def tD (W : WX) (f : DS → Res D) : TE := fun σ H Q => ∃ B F ds, Rel K mg B F H σ ds ∧ Post B F (f ds)
  (fun d ds' => ∀ v F' H', Rel K mg B F' H' σ ds' → Same F F' → Rep K mg F' d v → Q v H') (Raised K mg B F W σ)
/-- a new object, not shared yet -/
def tN (W : WX) (f : DS → Res Own) : TE := fun σ H Q => ∃ B F ds, Rel K mg B F H σ ds ∧ Post B F (f ds)
  (fun x ds' => ∀ p o F' H', Rel K mg B F' H' σ ds' → Same F F' → F' p = none → H' p = some o → OwnObj K mg F' x o → (B.H0 p = none ∨ B.ow p) → (∀ (j : Nat) y, ds'[j]? = some y → y.isOw = true → σ[j]? ≠ some (some (.ref p))) → Q (.ref p) H') (Raised K mg B F W σ)
/-- a test -/
def tDT (W : WX) (f : DS → Res Bool) : TT := fun σ H Q => ∃ B F ds, Rel K mg B F H σ ds ∧ Post B F (f ds)
  (fun b ds' => ∀ F' H', Rel K mg B F' H' σ ds' → Same F F' → Q b H') (Raised K mg B F W σ)
/-- an argument: data, or a slot as it stands -/
inductive Ar where
  | v (d : D) | s (i : Nat)
  deriving Inhabited
def ArOk (F : Hp) (σ : St) : Ar → V → Prop
  | .v d, v => Rep K mg F d v
  | .s i, v => σ[i]? = some (some v)
def ArsOk (F : Hp) (σ : St) : List Ar → List V → Prop
  | [], vs => vs = []
  | a :: as, vs => ∃ v r, vs = v :: r ∧ ArOk K mg F σ a v ∧ ArsOk F σ as r
/-- an argument list -/
def tDA (W : WX) (f : DS → Res (List Ar)) : TA := fun σ H Q => ∃ B F ds, Rel K mg B F H σ ds ∧ Post B F (f ds)
  (fun as ds' => ∀ vs F' H', Rel K mg B F' H' σ ds' → Same F F' → ArsOk K mg F' σ as vs → Q vs H') (Raised K mg B F W σ)
/-- one argument -/
def tD1 (W : WX) (f : DS → Res Ar) : TE := fun σ H Q => ∃ B F ds, Rel K mg B F H σ ds ∧ Post B F (f ds)
  (fun a ds' => ∀ v F' H', Rel K mg B F' H' σ ds' → Same F F' → ArOk K mg F' σ a v → Q v H') (Raised K mg B F W σ)
/-- a statement -/
def FlPost (B : Base) (F : Hp) (E : Ends) (ds' : DS) : Fl → Prop
  | .nx => ∀ σ' F' H', Rel K mg B F' H' σ' ds' → Same F F' → E.nx σ' H'
  | .rt d => ∀ v σ' F' H', Rel K mg B F' H' σ' ds' → Same F F' → Rep K mg F' d v → E.rt v H'
  | .bk => ∀ σ' F' H', Rel K mg B F' H' σ' ds' → Same F F' → E.bk σ' H'
  | .ct => ∀ σ' F' H', Rel K mg B F' H' σ' ds' → Same F F' → E.ct σ' H'
def tDS (W : WX) (f : DS → Res Fl) : TS := fun E σ H => ∃ B F ds, Rel K mg B F H σ ds ∧ Post B F (f ds)
  (fun fl ds' => FlPost K mg B F E ds' fl) (fun x s => ∀ σ', Raised K mg B F W σ' x s)
/-- a target -/
def tDG (gi : List Nat) (f : D → DS → Option DS) : TG := fun v σ H Q => ∃ B F ds d ds', Rel K mg B F H σ ds ∧ Rep K mg F d v ∧ f d ds = some ds' ∧ ∀ σ', Rel K mg B F H σ' ds' → σ'.length = σ.length → (∀ j, j ∉ gi → σ'[j]? = σ[j]?) → Q σ' H
end
abbrev DE (X : Cx) (W : WX) (e : Expr) (f : DS → Res D) : Prop := PE X e (tD X.K X.mg W f)
abbrev DN (X : Cx) (W : WX) (e : Expr) (f : DS → Res Own) : Prop := PE X e (tN X.K X.mg W f)
abbrev DT (X : Cx) (W : WX) (e : Expr) (f : DS → Res Bool) : Prop := PT X e (tDT X.K X.mg W f)
abbrev DA1 (X : Cx) (W : WX) (e : Expr) (f : DS → Res Ar) : Prop := PE X e (tD1 X.K X.mg W f)
abbrev DAs (X : Cx) (W : WX) (es : List Expr) (f : DS → Res (List Ar)) : Prop := PA X es (tDA X.K X.mg W f)
abbrev DSt (X : Cx) (W : WX) (st : Stmt) (f : DS → Res Fl) : Prop := PS X st (tDS X.K X.mg W f)
abbrev DSs (X : Cx) (W : WX) (st : List Stmt) (f : DS → Res Fl) : Prop := PSs X st (tDS X.K X.mg W f)
abbrev DG (X : Cx) (tg : Expr) (gi : List Nat) (f : D → DS → Option DS) : Prop := PG X tg (tDG X.K X.mg gi f)
theorem PE.imp {X : Cx} {e : Expr} {t t' : TE} (h : PE X e t) (i : ∀ σ H Q, t' σ H Q → t σ H Q) : PE X e t' := ⟨fun pins s σ H Q I q => h.run pins s σ H Q I (i σ H Q q)⟩
theorem PT.imp {X : Cx} {e : Expr} {t t' : TT} (h : PT X e t) (i : ∀ σ H Q, t' σ H Q → t σ H Q) : PT X e t' := ⟨fun pins s σ H Q I q => h.run pins s σ H Q I (i σ H Q q)⟩
theorem PA.imp {X : Cx} {e : List Expr} {t t' : TA} (h : PA X e t) (i : ∀ σ H Q, t' σ H Q → t σ H Q) : PA X e t' := ⟨fun pos pins s σ H Q I q => h.run pos pins s σ H Q I (i σ H Q q)⟩
theorem PS.imp {X : Cx} {e : Stmt} {t t' : TS} (h : PS X e t) (i : ∀ D σ H, t' D σ H → t D σ H) : PS X e t' := ⟨fun pins s σ H D I q => h.run pins s σ H D I (i D σ H q)⟩
theorem PSs.imp {X : Cx} {e : List Stmt} {t t' : TS} (h : PSs X e t) (i : ∀ D σ H, t' D σ H → t D σ H) : PSs X e t' := ⟨fun pins s σ H D I q => h.run pins s σ H D I (i D σ H q)⟩
theorem PG.imp {X : Cx} {e : Expr} {t t' : TG} (h : PG X e t) (i : ∀ v σ H Q, t' v σ H Q → t v σ H Q) : PG X e t' := ⟨fun pins s σ H v u Q I r q => h.run pins s σ H v u Q I r (i v σ H Q q)⟩
end DL

set_option autoImplicit true
/-! D-layer, part c: names, constants, arguments, operators, built-in calls. -/
namespace DL
open PySem PySem.Spec PyProof.Rows L2
set_option autoImplicit false
section
variable {K : PySem.W.Frag} {mg : Str → Option Value}
/-- objects were made: shared ones, hidden ones -/
inductive Grow : Hp → Hp → Hp → Hp → Prop where
  | refl (F H : Hp) : Grow F H F H
  | sh {F H F' H' : Hp} (g : Grow F H F' H') (p : Addr) (o : HO) (hp : H' p = none) : Grow F H (upd F' p o) (upd H' p o)
  | hid {F H F' H' : Hp} (g : Grow F H F' H') (p : Addr) (o : HO) (hp : H' p = none) : Grow F H F' (upd H' p o)
  | tup {F H F' H' : Hp} (g : Grow F H F' H') (p : Addr) (xs : List V) (hp : H' p = some (.tup xs)) : Grow F H (upd F' p (.tup xs)) H'
theorem Grow.rel {B : Base} {F H F' H' : Hp} {σ : St} {ds : DS} (g : Grow F H F' H') (r : Rel K mg B F H σ ds) : Rel K mg B F' H' σ ds ∧ Same F F' := by
  induction g with
  | refl => exact ⟨r, Same.refl _⟩
  | sh g p o hp ih =>
    obtain ⟨r', s⟩ := ih
    exact ⟨r'.alloc hp, s.trans (same_upd (Same.none r'.sub hp))⟩
  | hid g p o hp ih =>
    obtain ⟨r', s⟩ := ih
    exact ⟨r'.allocH hp, s⟩
  | tup g p xs hp ih =>
    obtain ⟨r', s⟩ := ih
    obtain ⟨r2, s2⟩ := r'.shareTup hp
    exact ⟨r2, s.trans s2⟩
theorem Grow.subs {F H F' H' : Hp} (g : Grow F H F' H') (r : Same F H) : Same F' H' ∧ Same F F' ∧ Same H H' := by
  induction g with
  | refl => exact ⟨r, Same.refl _, Same.refl _⟩
  | sh g p o hp ih =>
    obtain ⟨r', s, t⟩ := ih
    refine ⟨fun a u e => ?_, s.trans (same_upd (Same.none r' hp)), t.trans (same_upd hp)⟩
    by_cases z : a = p
    · subst z; rw [upd_same] at e ⊢; exact e
    · rw [upd_ne z] at e ⊢; exact r' a u e
  | hid g p o hp ih =>
    obtain ⟨r', s, t⟩ := ih
    refine ⟨fun a u e => ?_, s, t.trans (same_upd hp)⟩
    have h := r' a u e
    rw [upd_ne (ne_of_none h hp)]; exact h
  | tup g p xs hp ih =>
    obtain ⟨r', s, t⟩ := ih
    have ss : Same _ (upd _ p (.tup xs)) := fun a u e => by
      by_cases z : a = p
      · subst z; rw [r' _ _ e] at hp; cases hp; exact upd_same
      · rw [upd_ne z]; exact e
    refine ⟨fun a u e => ?_, s.trans ss, t⟩
    by_cases z : a = p
    · subst z; rw [upd_same] at e; cases e; exact hp
    · rw [upd_ne z] at e; exact r' a u e
theorem Grow.one {F H : Hp} {p : Addr} {o : HO} (hp : H p = none) : Grow F H (upd F p o) (upd H p o) := .sh (.refl F H) p o hp

/-! ### data that is looked at, not kept -/
variable (K mg) in
/-- v stands for d: its top object somewhere in H, what is in it shared -/
def BRep (F H : Hp) : D → V → Prop
  | .tup ds, v => ∃ a vs, v = .ref a ∧ H a = some (.tup vs) ∧ Reps K mg F ds vs
  | .lst ds, v => ∃ a vs, v = .ref a ∧ H a = some (.lst vs) ∧ Reps K mg F ds vs
  | .scr ns, v => ∃ a, v = .ref a ∧ SqL K H a (ns.map V.int)
  | .dT kvs, v => ∃ a ws, v = .ref a ∧ Rd H a (.dT ws) ∧ RepT K mg F kvs ws
  | .dK kvs, v => ∃ a ws, v = .ref a ∧ Rd H a (.dK ws) ∧ RepK K mg F kvs ws
  | .obj c fs, v => ∃ a C dx ws, v = .ref a ∧ mg c = some (.ref C) ∧ H a = some (.ins C dx ws) ∧ RepF K mg F fs ws
  | d, v => Rep K mg F d v
variable (K mg) in
def BReps (F H : Hp) : List D → List V → Prop
  | [], vs => vs = []
  | d :: ds, vs => ∃ v r, vs = v :: r ∧ BRep K mg F H d v ∧ BReps F H ds r
theorem BRep.of {F H : Hp} (s : Same F H) {d : D} {v : V} (h : Rep K mg F d v) : BRep K mg F H d v := by
  have k := Same.keeps s
  cases d with
  | tup ds => unfold Rep at h; obtain ⟨a, vs, e, q, r⟩ := h; exact ⟨a, vs, e, s _ _ q, r⟩
  | lst ds => unfold Rep at h; obtain ⟨a, vs, e, q, r⟩ := h; exact ⟨a, vs, e, s _ _ q, r⟩
  | scr ns => unfold Rep at h; obtain ⟨a, e, q⟩ := h; exact ⟨a, e, k.sqL q⟩
  | dT ds => unfold Rep at h; obtain ⟨a, vs, e, q, r⟩ := h; exact ⟨a, vs, e, k.dT _ _ q, r⟩
  | dK ds => unfold Rep at h; obtain ⟨a, vs, e, q, r⟩ := h; exact ⟨a, vs, e, k.dK _ _ q, r⟩
  | obj c fs => unfold Rep at h; obtain ⟨a, C, dx, vs, e, m, q, r⟩ := h; exact ⟨a, C, dx, vs, e, m, s _ _ q, r⟩
  | non => exact h
  | bl b => exact h
  | int i => exact h
  | str x => exact h
theorem BRep.own {F H : Hp} {x : Own} {p : Addr} {o : HO} (hp : H p = some o) (h : OwnObj K mg F x o) : BRep K mg F H x.d (.ref p) := by
  cases x with
  | l ds => obtain ⟨vs, e, r⟩ := h; subst e; exact ⟨p, vs, rfl, hp, r⟩
  | T ds => obtain ⟨vs, e, r⟩ := h; subst e; exact ⟨p, vs, rfl, .inl hp, r⟩
  | K ds => obtain ⟨vs, e, r⟩ := h; subst e; exact ⟨p, vs, rfl, .inl hp, r⟩
  | o c fs => obtain ⟨C, dx, vs, m, e, r⟩ := h; subst e; exact ⟨p, C, dx, vs, rfl, m, hp, r⟩
theorem BRep.int_ {F H : Hp} {i : Int} {v : V} (h : BRep K mg F H (.int i) v) : v = .int i := by unfold BRep Rep at h; exact h
theorem BRep.str_ {F H : Hp} {i : Str} {v : V} (h : BRep K mg F H (.str i) v) : v = .str i := by unfold BRep Rep at h; exact h
theorem BRep.bl_ {F H : Hp} {i : Bool} {v : V} (h : BRep K mg F H (.bl i) v) : v = .bl i := by unfold BRep Rep at h; exact h
theorem BRep.non_ {F H : Hp} {v : V} (h : BRep K mg F H .non v) : v = .non := by unfold BRep Rep at h; exact h
theorem BReps.nil_ {F H : Hp} {vs : List V} (h : BReps K mg F H [] vs) : vs = [] := h
theorem BReps.cons_ {F H : Hp} {d : D} {ds : List D} {vs : List V} (h : BReps K mg F H (d :: ds) vs) : ∃ v r, vs = v :: r ∧ BRep K mg F H d v ∧ BReps K mg F H ds r := h
theorem Rep.int {F : Hp} {i : Int} : Rep K mg F (.int i) (.int i) := by unfold Rep; rfl
theorem Rep.str {F : Hp} {i : Str} : Rep K mg F (.str i) (.str i) := by unfold Rep; rfl
theorem Rep.bl {F : Hp} {i : Bool} : Rep K mg F (.bl i) (.bl i) := by unfold Rep; rfl
theorem Rep.non {F : Hp} : Rep K mg F .non .non := by unfold Rep; rfl
theorem Rep.int_ {F : Hp} {i : Int} {v : V} (h : Rep K mg F (.int i) v) : v = .int i := by unfold Rep at h; exact h
theorem Rep.str_ {F : Hp} {i : Str} {v : V} (h : Rep K mg F (.str i) v) : v = .str i := by unfold Rep at h; exact h
theorem Rep.bl_ {F : Hp} {i : Bool} {v : V} (h : Rep K mg F (.bl i) v) : v = .bl i := by unfold Rep at h; exact h
theorem Rep.non_ {F : Hp} {v : V} (h : Rep K mg F .non v) : v = .non := by unfold Rep at h; exact h
theorem Rep.tup_new {F : Hp} {ds : List D} {vs : List V} {p : Addr} (h : Reps K mg F ds vs) (hp : F p = none) : Rep K mg (upd F p (.tup vs)) (.tup ds) (.ref p) := by
  unfold Rep
  exact ⟨p, vs, rfl, upd_same, Reps.keeps (Same.keeps (same_upd hp)) _ _ h⟩

/-! ### arguments -/
def Ar.d (s : DS) : Ar → Option D
  | .v d => some d
  | .s i => match s[i]? with
    | some (.sh d) => some d
    | some (.ow _ x) => some x.d
    | _ => none
def Ar.ds (s : DS) : List Ar → Option (List D)
  | [] => some []
  | a :: as => match a.d s, Ar.ds s as with
    | some d, some ds => some (d :: ds)
    | _, _ => none
theorem ArOk.brep {B : Base} {F H : Hp} {σ : St} {s : DS} (r : Rel K mg B F H σ s) {a : Ar} {v : V} {d : D} (h : ArOk K mg F σ a v) (e : a.d s = some d) : BRep K mg F H d v := by
  cases a with
  | v d' => cases e; exact .of r.sub h
  | s i =>
    have h : σ[i]? = some (some v) := h
    have e : (match s[i]? with
      | some (.sh d) => some d
      | some (.ow _ x) => some x.d
      | _ => none) = some d := e
    split at e
    · rename_i d' e2
      cases e
      obtain ⟨v', e3, q⟩ := r.shared e2
      rw [h] at e3; cases e3
      exact .of r.sub q
    · rename_i io x e2
      cases e
      obtain ⟨p, o, e3, f, hp, q⟩ := r.owned e2
      rw [h] at e3; cases e3
      exact .own hp q
    · cases e
theorem ArsOk.breps {B : Base} {F H : Hp} {σ : St} {s : DS} (r : Rel K mg B F H σ s) : ∀ {as : List Ar} {vs : List V} {ds : List D}, ArsOk K mg F σ as vs → Ar.ds s as = some ds → BReps K mg F H ds vs
  | [], vs, ds, h, e => by cases e; exact h
  | a :: as, vs, ds, h, e => by
    obtain ⟨v, t, ev, h1, h2⟩ := h
    unfold Ar.ds at e
    split at e
    · rename_i d ds' e1 e2
      cases e
      exact ⟨v, t, ev, h1.brep r e1, ArsOk.breps r h2 e2⟩
    · cases e
theorem ArOk.keeps {F F' : Hp} (s : Same F F') {σ : St} {a : Ar} {v : V} (h : ArOk K mg F σ a v) : ArOk K mg F' σ a v := by
  cases a with
  | v d => exact Rep.keeps (Same.keeps s) d v h
  | s i => exact h
theorem ArsOk.keeps {F F' : Hp} (s : Same F F') {σ : St} : ∀ {as : List Ar} {vs : List V}, ArsOk K mg F σ as vs → ArsOk K mg F' σ as vs
  | [], _, h => h
  | a :: as, _, ⟨v, t, e, h1, h2⟩ => ⟨v, t, e, h1.keeps s, ArsOk.keeps s h2⟩
end

/-! ### combinators -/
def eVar (i : Nat) : DS → Res D := fun s => match s[i]? with
  | some (.sh d) => .ok d s
  | some (.ow false x) => .ok x.d (s.set i (.sh x.d))
  | _ => .bad
def eC (d : D) : DS → Res D := fun s => .ok d s
def aVar (i : Nat) : DS → Res Ar := fun s => match s[i]? with
  | some (.sh _) => .ok (.s i) s
  | some (.ow _ _) => .ok (.s i) s
  | _ => .bad
def aOf (f : DS → Res D) : DS → Res Ar := fun s => (f s).bind fun d s => .ok (.v d) s
def asNil : DS → Res (List Ar) := fun s => .ok [] s
def asCons (f : DS → Res Ar) (g : DS → Res (List Ar)) : DS → Res (List Ar) := fun s => (f s).bind fun a s => (g s).bind fun as s => .ok (a :: as) s
def eOwn (f : DS → Res Own) : DS → Res D := fun s => (f s).bind fun x s => .ok x.d s
/-- an operation of the arguments as they are -/
def eCall (fn : List D → Option D) (g : DS → Res (List Ar)) : DS → Res D := fun s => (g s).bind fun as s => match (Ar.ds s as).bind fn with
  | some d => .ok d s
  | none => .bad
def nCall (fn : List D → Option Own) (g : DS → Res (List Ar)) : DS → Res Own := fun s => (g s).bind fun as s => match (Ar.ds s as).bind fn with
  | some d => .ok d s
  | none => .bad
def eOp1 (fn : D → Option D) (f : DS → Res Ar) : DS → Res D := fun s => (f s).bind fun a s => match (a.d s).bind fn with
  | some d => .ok d s
  | none => .bad
def bind2 {α : Type} (x y : Option D) (fn : D → D → Option α) : Option α := match x, y with
  | some x, some y => fn x y
  | _, _ => none
def eOp2 (fn : D → D → Option D) (f g : DS → Res Ar) : DS → Res D := fun s => (f s).bind fun a s => (g s).bind fun b s => match bind2 (a.d s) (b.d s) fn with
  | some d => .ok d s
  | none => .bad
def nOp2 (fn : D → D → Option Own) (f g : DS → Res Ar) : DS → Res Own := fun s => (f s).bind fun a s => (g s).bind fun b s => match bind2 (a.d s) (b.d s) fn with
  | some d => .ok d s
  | none => .bad

section
variable {X : Cx} {W : WX} {pos : Pos}
/-- the value's post, from the state as it stands -/
theorem pe_d {e : Expr} {t : TE} {f : DS → Res D} (h : PE X e t)
    (i : ∀ B F ds σ H Q, Rel X.K X.mg B F H σ ds → Post B F (f ds) (fun d ds' => ∀ v F' H', Rel X.K X.mg B F' H' σ ds' → Same F F' → Rep X.K X.mg F' d v → Q v H') (Raised X.K X.mg B F W σ) → t σ H Q) : DE X W e f :=
  PE.imp h fun σ H Q ⟨B, F, ds, r, p⟩ => i B F ds σ H Q r p
theorem de_var (i : Nat) {x : Str} (hN : X.N[i]? = some x := by rfl) (hv : Vis X.env.scope x := by first | exact Or.inl rfl | exact Or.inr (Or.inl rfl) | exact Or.inr (Or.inr rfl)) (hd : (x == ("__debug__" : Str)) = false := by decide)
    (hcd : (x == ("__classdict__" : Str)) = false := by decide) : DE X W (.Name x pos) (eVar i) := by
  refine pe_d (pe_var (i := i) hN hv hd hcd) fun B F ds σ H Q r p => ?_
  rcases p.of with ⟨d, s, e, p⟩ | ⟨x, s, e, p⟩
  · unfold eVar at e
    split at e
    · rename_i d' e1
      cases e
      obtain ⟨v, e2, q⟩ := r.shared e1
      exact ⟨v, e2, p v F H r (Same.refl _) q⟩
    · rename_i x e1
      cases e
      obtain ⟨pa, o, e2, f, r2, q⟩ := r.freeze e1
      exact ⟨.ref pa, e2, p _ _ H r2 (same_upd f) q⟩
    · cases e
  · unfold eVar at e
    split at e <;> cases e
theorem da_var (i : Nat) {x : Str} (hN : X.N[i]? = some x := by rfl) (hv : Vis X.env.scope x := by first | exact Or.inl rfl | exact Or.inr (Or.inl rfl) | exact Or.inr (Or.inr rfl)) (hd : (x == ("__debug__" : Str)) = false := by decide)
    (hcd : (x == ("__classdict__" : Str)) = false := by decide) : DA1 X W (.Name x pos) (aVar i) := by
  refine PE.imp (pe_var (i := i) hN hv hd hcd) fun σ H Q ⟨B, F, ds, r, p⟩ => ?_
  rcases p.of with ⟨d, s, e, p⟩ | ⟨x, s, e, p⟩
  · unfold aVar at e
    split at e
    · rename_i d' e1
      cases e
      obtain ⟨v, e2, q⟩ := r.shared e1
      exact ⟨v, e2, p v F H r (Same.refl _) e2⟩
    · rename_i io x e1
      cases e
      obtain ⟨pa, o, e2, f, hp, q⟩ := r.owned e1
      exact ⟨.ref pa, e2, p _ _ H r (Same.refl _) e2⟩
    · cases e
  · unfold aVar at e
    split at e <;> cases e
theorem da_of {e : Expr} {f : DS → Res D} (h : DE X W e f) : DA1 X W e (aOf f) := by
  refine PE.imp h fun σ H Q ⟨B, F, ds, r, p⟩ => ⟨B, F, ds, r, ?_⟩
  unfold aOf at p
  revert p
  cases f ds with
  | ok d s => exact fun p v F' H' r' s' q => p v F' H' r' s' q
  | ex x s => exact fun p => p
  | bad => exact fun p => p
theorem de_int {i : Int} {j pos} : DE X W (.Constant (.int i) j pos) (eC (.int i)) := PE.imp pe_int fun σ H Q ⟨B, F, ds, r, p⟩ => p _ F H r (Same.refl _) .int
theorem de_bl {b : Bool} {j pos} : DE X W (.Constant (.bool b) j pos) (eC (.bl b)) := PE.imp pe_bl fun σ H Q ⟨B, F, ds, r, p⟩ => p _ F H r (Same.refl _) .bl
theorem de_non {j pos} : DE X W (.Constant .none j pos) (eC .non) := PE.imp pe_non fun σ H Q ⟨B, F, ds, r, p⟩ => p _ F H r (Same.refl _) .non
theorem de_str {x : Str} {j pos} : DE X W (.Constant (.str x) j pos) (eC (.str x)) := PE.imp pe_str fun σ H Q ⟨B, F, ds, r, p⟩ => p _ F H r (Same.refl _) .str
theorem de_globI {x : Str} {i : Int} (hm : ∃ t, X.mg x = some (.int i t)) (hg : Gl X x := by rfl) (hd : (x == ("__debug__" : Str)) = false := by decide) : DE X W (.Name x pos) (eC (.int i)) := by
  obtain ⟨t, hm⟩ := hm
  exact PE.imp (pe_glob (v := .int i) hg hm ⟨t, rfl⟩ hd) fun σ H Q ⟨B, F, ds, r, p⟩ => p _ F H r (Same.refl _) .int
theorem de_globS {x y : Str} (hm : ∃ t, X.mg x = some (.str y t)) (hg : Gl X x := by rfl) (hd : (x == ("__debug__" : Str)) = false := by decide) : DE X W (.Name x pos) (eC (.str y)) := by
  obtain ⟨t, hm⟩ := hm
  exact PE.imp (pe_glob (v := .str y) hg hm ⟨t, rfl⟩ hd) fun σ H Q ⟨B, F, ds, r, p⟩ => p _ F H r (Same.refl _) .str
/-- a new object is shared at once -/
theorem de_own {e : Expr} {f : DS → Res Own} (h : DN X W e f) : DE X W e (eOwn f) := by
  refine PE.imp h fun σ H Q ⟨B, F, ds, r, p⟩ => ⟨B, F, ds, r, ?_⟩
  unfold eOwn at p
  revert p
  cases f ds with
  | ok d s =>
    intro p pa o F' H' r' s' f' hp q h0 hn
    have ss := same_upd (o := o) f'
    exact p _ _ H' (r'.share f' hp h0 hn) (s'.trans ss) ((q.keeps (Same.keeps ss)).rep upd_same)
  | ex x s => exact fun p => p
  | bad => exact fun p => p
theorem das_nil : DAs X W [] asNil := PA.imp pa_nil fun σ H Q ⟨B, F, ds, r, p⟩ => p [] F H r (Same.refl _) rfl
theorem das_cons {e : Expr} {es : List Expr} {f : DS → Res Ar} {g : DS → Res (List Ar)} (h : DA1 X W e f) (hr : DAs X W es g) (hs : starEach (e :: es) X.env = (false, eval e X.env) :: starEach es X.env := by rfl) : DAs X W (e :: es) (asCons f g) := by
  refine PA.imp (pa_cons h hr hs) fun σ H Q ⟨B, F, ds, r, p⟩ => ⟨B, F, ds, r, ?_⟩
  unfold asCons at p
  revert p
  cases f ds with
  | ok a s =>
    intro p v F' H' r' s' q
    refine ⟨B, F', s, r', ?_⟩
    rw [Res.bind_ok] at p
    revert p
    cases g s with
    | ok as s2 => exact fun p vs F2 H2 r2 s2 q2 => p (v :: vs) F2 H2 r2 (s'.trans s2) ⟨v, vs, rfl, q.keeps s2, q2⟩
    | ex x s2 => exact fun p cls dd F2 H2 r2 s2 x2 => p cls dd F2 H2 r2 (s'.trans s2) x2
    | bad => exact fun p => p
  | ex x s => exact fun p => p
  | bad => exact fun p => p
end

/-! ### operations by values -/
section
variable (K : PySem.W.Frag) (mg : Str → Option Value)
/-- a reading does the operation fn -/
def OpS (r : List V → Hp → VK → Prop) (fn : List D → Option D) : Prop := ∀ F H ds vs d Q, Same F H → BReps K mg F H ds vs → fn ds = some d → (∀ v F' H', Grow F H F' H' → Rep K mg F' d v → Q v H') → r vs H Q
def NwS (r : List V → Hp → VK → Prop) (fn : List D → Option Own) : Prop := ∀ F H ds vs x Q, Same F H → BReps K mg F H ds vs → fn ds = some x → (∀ p o F' H', Grow F H F' H' → H' p = none → OwnObj K mg F' x o → Q (.ref p) (upd H' p o)) → r vs H Q
def OpS2 (r : R2) (fn : D → D → Option D) : Prop := ∀ F H x y v w d Q, Same F H → BRep K mg F H x v → BRep K mg F H y w → fn x y = some d → (∀ v F' H', Grow F H F' H' → Rep K mg F' d v → Q v H') → r v w H Q
def NwS2 (r : R2) (fn : D → D → Option Own) : Prop := ∀ F H x y v w d Q, Same F H → BRep K mg F H x v → BRep K mg F H y w → fn x y = some d → (∀ p o F' H', Grow F H F' H' → H' p = none → OwnObj K mg F' d o → Q (.ref p) (upd H' p o)) → r v w H Q
def OpS1 (r : V → Hp → VK → Prop) (fn : D → Option D) : Prop := ∀ F H x v d Q, Same F H → BRep K mg F H x v → fn x = some d → (∀ v F' H', Grow F H F' H' → Rep K mg F' d v → Q v H') → r v H Q
end
theorem post_call {K : PySem.W.Frag} {mg : Str → Option Value} {B : Base} {F H : Hp} {σ : St} {s : DS} {fn : List D → Option D} {r : List V → Hp → VK → Prop} (hs : OpS K mg r fn) (rl : Rel K mg B F H σ s) {F0 : Hp} (s0 : Same F0 F) {as : List Ar} {vs : List V} (q : ArsOk K mg F σ as vs) {W : WX} {Q : VK}
    (p : Post B F0 (match (Ar.ds s as).bind fn with
      | some d => Res.ok d s
      | none => .bad) (fun d ds' => ∀ v F' H', Rel K mg B F' H' σ ds' → Same F0 F' → Rep K mg F' d v → Q v H') (Raised K mg B F0 W σ)) : r vs H Q := by
  cases e : Ar.ds s as with
  | none => rw [e] at p; exact p.elim
  | some ds =>
    rw [e] at p
    cases e2 : fn ds with
    | none => rw [Option.bind_some, e2] at p; exact p.elim
    | some d =>
      rw [Option.bind_some, e2] at p
      refine hs F H ds vs d Q rl.sub (q.breps rl e) e2 fun v F' H' g rp => ?_
      obtain ⟨r', s'⟩ := g.rel rl
      exact p v F' H' r' (s0.trans s') rp
theorem post_new {K : PySem.W.Frag} {mg : Str → Option Value} {B : Base} {F H : Hp} {σ : St} {s : DS} {fn : List D → Option Own} {r : List V → Hp → VK → Prop} (hs : NwS K mg r fn) (rl : Rel K mg B F H σ s) {F0 : Hp} (s0 : Same F0 F) {as : List Ar} {vs : List V} (q : ArsOk K mg F σ as vs) {W : WX} {Q : VK}
    (p : Post B F0 (match (Ar.ds s as).bind fn with
      | some d => Res.ok d s
      | none => .bad) (fun x ds' => ∀ p o F' H', Rel K mg B F' H' σ ds' → Same F0 F' → F' p = none → H' p = some o → OwnObj K mg F' x o → (B.H0 p = none ∨ B.ow p) → (∀ (j : Nat) y, ds'[j]? = some y → y.isOw = true → σ[j]? ≠ some (some (.ref p))) → Q (.ref p) H') (Raised K mg B F0 W σ)) : r vs H Q := by
  cases e : Ar.ds s as with
  | none => rw [e] at p; exact p.elim
  | some ds =>
    rw [e] at p
    cases e2 : fn ds with
    | none => rw [Option.bind_some, e2] at p; exact p.elim
    | some d =>
      rw [Option.bind_some, e2] at p
      refine hs F H ds vs d Q rl.sub (q.breps rl e) e2 fun pa o F' H' g hp oo => ?_
      obtain ⟨r', s'⟩ := g.rel rl
      refine p pa o F' _ (r'.allocH hp) (s0.trans s') (Same.none r'.sub hp) upd_same oo (r'.fresh0 hp) fun j y ej hy e3 => ?_
      cases y with
      | ow io x =>
        obtain ⟨p', o', e4, _, h4, _⟩ := r'.owned ej
        rw [e3] at e4; cases e4
        rw [hp] at h4; cases h4
      | _ => cases hy
/-- two arguments are a list of two -/
theorem ars2 (a b : Ar) (s : DS) {α : Type} (fn : D → D → Option α) : bind2 (a.d s) (b.d s) fn = (Ar.ds s [a, b]).bind (fun l => match l with
  | [x, y] => fn x y
  | _ => none) := by
  unfold bind2
  simp only [Ar.ds]
  cases a.d s <;> cases b.d s <;> rfl
section
variable {X : Cx} {W : WX} {pos p : Pos} {e : Expr} {es : List Expr} {x : Str} {id T : String}
theorem de_callB {r : List V → Hp → VK → Prop} {fn : List D → Option D} {g : DS → Res (List Ar)} (hc : CallR X (.builtin id) r) (hs : OpS X.K X.mg r fn) (hm : X.mg x = none) (hv : bootBuiltins x = some (.builtin id)) (ha : DAs X W (e :: es) g) (hg : Gl X x := by rfl) (hn : x ≠ "__name__" := by decide) (hdb : (x == ("__debug__" : Str)) = false := by decide)
    (he : starEach (e :: es) X.env = (false, eval e X.env) :: starEach es X.env := by rfl) (hpl : (backTo pos (starEach es X.env)).any (·.1) = false := by rfl) :
    DE X W (.Call (.Name x p) (e :: es) [] pos) (eCall fn g) := by
  refine PE.imp (pe_callB hc hg hm hv ha hn hdb he hpl) fun σ H Q ⟨B, F, ds, rl, p⟩ => ⟨B, F, ds, rl, ?_⟩
  unfold eCall at p
  revert p
  cases g ds with
  | ok as s => exact fun p vs F' H' r' s' q => post_call hs r' s' q p
  | ex x s => exact fun p => p
  | bad => exact fun p => p
theorem de_callTy {r : List V → Hp → VK → Prop} {fn : List D → Option D} {g : DS → Res (List Ar)} (hc : CallR X (.type T) r) (hs : OpS X.K X.mg r fn) (hm : X.mg x = none) (hv : bootBuiltins x = some (.type T)) (ha : DAs X W (e :: es) g) (hg : Gl X x := by rfl) (hn : x ≠ "__name__" := by decide) (hdb : (x == ("__debug__" : Str)) = false := by decide)
    (he : starEach (e :: es) X.env = (false, eval e X.env) :: starEach es X.env := by rfl) (hpl : (backTo pos (starEach es X.env)).any (·.1) = false := by rfl) :
    DE X W (.Call (.Name x p) (e :: es) [] pos) (eCall fn g) := by
  refine PE.imp (pe_callTy hc hg hm hv ha hn hdb he hpl) fun σ H Q ⟨B, F, ds, rl, p⟩ => ⟨B, F, ds, rl, ?_⟩
  unfold eCall at p
  revert p
  cases g ds with
  | ok as s => exact fun p vs F' H' r' s' q => post_call hs r' s' q p
  | ex x s => exact fun p => p
  | bad => exact fun p => p
theorem dn_callB {r : List V → Hp → VK → Prop} {fn : List D → Option Own} {g : DS → Res (List Ar)} (hc : CallR X (.builtin id) r) (hs : NwS X.K X.mg r fn) (hm : X.mg x = none) (hv : bootBuiltins x = some (.builtin id)) (ha : DAs X W (e :: es) g) (hg : Gl X x := by rfl) (hn : x ≠ "__name__" := by decide) (hdb : (x == ("__debug__" : Str)) = false := by decide)
    (he : starEach (e :: es) X.env = (false, eval e X.env) :: starEach es X.env := by rfl) (hpl : (backTo pos (starEach es X.env)).any (·.1) = false := by rfl) :
    DN X W (.Call (.Name x p) (e :: es) [] pos) (nCall fn g) := by
  refine PE.imp (pe_callB hc hg hm hv ha hn hdb he hpl) fun σ H Q ⟨B, F, ds, rl, p⟩ => ⟨B, F, ds, rl, ?_⟩
  unfold nCall at p
  revert p
  cases g ds with
  | ok as s => exact fun p vs F' H' r' s' q => post_new hs r' s' q p
  | ex x s => exact fun p => p
  | bad => exact fun p => p
theorem dn_callTy {r : List V → Hp → VK → Prop} {fn : List D → Option Own} {g : DS → Res (List Ar)} (hc : CallR X (.type T) r) (hs : NwS X.K X.mg r fn) (hm : X.mg x = none) (hv : bootBuiltins x = some (.type T)) (ha : DAs X W (e :: es) g) (hg : Gl X x := by rfl) (hn : x ≠ "__name__" := by decide) (hdb : (x == ("__debug__" : Str)) = false := by decide)
    (he : starEach (e :: es) X.env = (false, eval e X.env) :: starEach es X.env := by rfl) (hpl : (backTo pos (starEach es X.env)).any (·.1) = false := by rfl) :
    DN X W (.Call (.Name x p) (e :: es) [] pos) (nCall fn g) := by
  refine PE.imp (pe_callTy hc hg hm hv ha hn hdb he hpl) fun σ H Q ⟨B, F, ds, rl, p⟩ => ⟨B, F, ds, rl, ?_⟩
  unfold nCall at p
  revert p
  cases g ds with
  | ok as s => exact fun p vs F' H' r' s' q => post_new hs r' s' q p
  | ex x s => exact fun p => p
  | bad => exact fun p => p
/-- the reading of two expressions, then an operation -/
theorem two_d {r : R2} {fn : D → D → Option D} {f g : DS → Res Ar} (hs : OpS2 X.K X.mg r fn) {σ : St} {H : Hp} {Q : VK} (h : tD X.K X.mg W (eOp2 fn f g) σ H Q) : tOp r (tD1 X.K X.mg W f) (tD1 X.K X.mg W g) σ H Q := by
  obtain ⟨B, F, ds, rl, p⟩ := h
  refine ⟨B, F, ds, rl, ?_⟩
  unfold eOp2 at p
  revert p
  cases f ds with
  | ok a s =>
    intro p v F' H' r' s' q
    rw [Res.bind_ok] at p
    refine ⟨B, F', s, r', ?_⟩
    revert p
    cases g s with
    | ok b s2 =>
      intro p w F2 H2 r2 s2' q2
      rw [Res.bind_ok, ars2] at p
      refine post_call (r := fun vs H Q => ∃ v w, vs = [v, w] ∧ r v w H Q) (as := [a, b]) (vs := [v, w]) (fun F H ds vs d Q sm br e k => ?_) r2 (s'.trans s2') ⟨v, [w], rfl, q.keeps s2', w, [], rfl, q2, rfl⟩ p |> fun ⟨v', w', e, h⟩ => by cases e; exact h
      match ds, br, e with
      | [x, y], ⟨v, _, ev, h1, w, _, ew, h2, en⟩, e => subst ev; subst ew; subst en; exact ⟨v, w, rfl, hs F H x y v w d Q sm h1 h2 e k⟩
      | [], _, e => cases e
      | [_], _, e => cases e
      | _ :: _ :: _ :: _, _, e => cases e
    | ex x s2 => exact fun p cls dd F2 H2 r2 s2 x2 => p cls dd F2 H2 r2 (s'.trans s2) x2
    | bad => exact fun p => p
  | ex x s => exact fun p => p
  | bad => exact fun p => p
theorem two_n {r : R2} {fn : D → D → Option Own} {f g : DS → Res Ar} (hs : NwS2 X.K X.mg r fn) {σ : St} {H : Hp} {Q : VK} (h : tN X.K X.mg W (nOp2 fn f g) σ H Q) : tOp r (tD1 X.K X.mg W f) (tD1 X.K X.mg W g) σ H Q := by
  obtain ⟨B, F, ds, rl, p⟩ := h
  refine ⟨B, F, ds, rl, ?_⟩
  unfold nOp2 at p
  revert p
  cases f ds with
  | ok a s =>
    intro p v F' H' r' s' q
    rw [Res.bind_ok] at p
    refine ⟨B, F', s, r', ?_⟩
    revert p
    cases g s with
    | ok b s2 =>
      intro p w F2 H2 r2 s2' q2
      rw [Res.bind_ok, ars2] at p
      refine post_new (r := fun vs H Q => ∃ v w, vs = [v, w] ∧ r v w H Q) (as := [a, b]) (vs := [v, w]) (fun F H ds vs d Q sm br e k => ?_) r2 (s'.trans s2') ⟨v, [w], rfl, q.keeps s2', w, [], rfl, q2, rfl⟩ p |> fun ⟨v', w', e, h⟩ => by cases e; exact h
      match ds, br, e with
      | [x, y], ⟨v, _, ev, h1, w, _, ew, h2, en⟩, e => subst ev; subst ew; subst en; exact ⟨v, w, rfl, hs F H x y v w d Q sm h1 h2 e k⟩
      | [], _, e => cases e
      | [_], _, e => cases e
      | _ :: _ :: _ :: _, _, e => cases e
    | ex x s2 => exact fun p cls dd F2 H2 r2 s2 x2 => p cls dd F2 H2 r2 (s'.trans s2) x2
    | bad => exact fun p => p
  | ex x s => exact fun p => p
  | bad => exact fun p => p
variable {a b : Expr} {f g : DS → Res Ar}
theorem de_op {op : Operator} {r : R2} {fn : D → D → Option D} (ho : OpR X (binaryOp op) r) (hs : OpS2 X.K X.mg r fn) (ha : DA1 X W a f) (hb : DA1 X W b g) : DE X W (.BinOp a op b pos) (eOp2 fn f g) :=
  PE.imp (pe_op ho ha hb) fun _ _ _ h => two_d hs h
theorem dn_op {op : Operator} {r : R2} {fn : D → D → Option Own} (ho : OpR X (binaryOp op) r) (hs : NwS2 X.K X.mg r fn) (ha : DA1 X W a f) (hb : DA1 X W b g) : DN X W (.BinOp a op b pos) (nOp2 fn f g) :=
  PE.imp (pe_op ho ha hb) fun _ _ _ h => two_n hs h
theorem de_ix {r : R2} {fn : D → D → Option D} (ho : IxR X r) (hs : OpS2 X.K X.mg r fn) (ha : DA1 X W a f) (hb : DA1 X W b g) (hp : PlainIx b := by exact fun _ _ => rfl) : DE X W (.Subscript a b pos) (eOp2 fn f g) :=
  PE.imp (pe_ix ho ha hb hp) fun _ _ _ h => two_d hs h
theorem de_cmp {op : CmpOp} {r : R2} {fn : D → D → Option D} (ho : OpR X (compareOp op) r) (hs : OpS2 X.K X.mg r fn) (ha : DA1 X W a f) (hb : DA1 X W b g) (hm : behindInMarks op b = false := by first | exact nomark _ | rfl) : DE X W (.Compare a [op] [b] pos) (eOp2 fn f g) :=
  PE.imp (pe_cmpR ho ha hb hm) fun _ _ _ h => two_d hs h
theorem de_un {op : UnaryOp} {r : V → Hp → VK → Prop} {fn : D → Option D} (ho : UnR X (unaryOp op) r) (hs : OpS1 X.K X.mg r fn) (ha : DA1 X W a f) : DE X W (.UnaryOp op a pos) (eOp1 fn f) := by
  refine PE.imp (pe_un ho ha) fun σ H Q ⟨B, F, ds, rl, p⟩ => ⟨B, F, ds, rl, ?_⟩
  unfold eOp1 at p
  revert p
  cases f ds with
  | ok a s =>
    intro p v F' H' r' s' q
    rw [Res.bind_ok] at p
    cases e : a.d s with
    | none => rw [e] at p; exact p.elim
    | some d =>
      rw [e, Option.bind_some] at p
      cases e2 : fn d with
      | none => rw [e2] at p; exact p.elim
      | some d2 =>
        rw [e2] at p
        refine hs F' H' d v d2 Q r'.sub (q.brep r' e) e2 fun v F2 H2 gg rp => ?_
        obtain ⟨r2, s2⟩ := gg.rel r'
        exact p v F2 H2 r2 (s'.trans s2) rp
  | ex x s => exact fun p => p
  | bad => exact fun p => p
end
end DL

set_option autoImplicit true
/-! D-layer, part d: tests, statements, targets, defs and their calls. -/
namespace DL
open PySem PySem.Spec PyProof.Rows L2
set_option autoImplicit false
/-! ### where code runs -/
/-- room for k calls, what is raised is taken -/
structure Ctx (k : Nat) (X : Cx) (W : WX) : Prop where
  room : Room k X.A
  tk : Takes X W
  po : PassesOwn (model X.prog X.w) X.A X.env X.xe
  calm : X.calm = true
abbrev WF : WX := fun _ _ _ _ => False
theorem Ctx.blk {k : Nat} {X : Cx} {W : WX} (C : Ctx k X W) (s : Shared) (H : Hp) (scope : Scope) (cenv : Env) (fp : List Addr) : Ctx k (X.blk s H scope cenv fp) WF := ⟨C.room, takes0, PassesOwn.never, C.calm⟩
/-! ### weakening -/
section
variable {K : PySem.W.Frag} {mg : Str → Option Value} {B : Base} {F F' : Hp} {σ : St} {W : WX}
theorem Raised.mono {x : Exn} {s : DS} (sm : Same F F') (h : Raised K mg B F W σ x s) : Raised K mg B F' W σ x s := fun cls dd F2 H2 r s2 e => h cls dd F2 H2 r (sm.trans s2) e
theorem FlPost.mono {E : Ends} {s : DS} {fl : Fl} (sm : Same F F') (h : FlPost K mg B F E s fl) : FlPost K mg B F' E s fl := by
  cases fl with
  | nx => exact fun σ' F2 H2 r s2 => h σ' F2 H2 r (sm.trans s2)
  | rt d => exact fun v σ' F2 H2 r s2 => h v σ' F2 H2 r (sm.trans s2)
  | bk => exact fun σ' F2 H2 r s2 => h σ' F2 H2 r (sm.trans s2)
  | ct => exact fun σ' F2 H2 r s2 => h σ' F2 H2 r (sm.trans s2)
theorem Post.mono {α : Type} {r : Res α} {g g' : α → DS → Prop} {b b' : Exn → DS → Prop} (h : Post B F r g b) (hg : ∀ a s, g a s → g' a s) (hb : ∀ x s, b x s → b' x s) : Post B F' r g' b' := by
  cases r with
  | ok a s => exact hg a s h
  | ex x s => exact hb x s h
  | bad => exact h
theorem Post.bind {α β : Type} {r : Res α} {k : α → DS → Res β} {g : β → DS → Prop} {b : Exn → DS → Prop} (h : Post B F (r.bind k) g b) : Post B F r (fun a s => Post B F (k a s) g b) b := by
  cases r with
  | ok a s => exact h
  | ex x s => exact h
  | bad => exact h
theorem Post.reF {α : Type} {r : Res α} {g : α → DS → Prop} {b : Exn → DS → Prop} (h : Post B F r g b) : Post B F' r g b := h
end
/-! ### tests -/
def tB (f : DS → Res D) : DS → Res Bool := fun s => (f s).bind fun d s => match d with
  | .bl b => .ok b s
  | _ => .bad
def tAndD (f g : DS → Res Bool) : DS → Res Bool := fun s => (f s).bind fun b s => match b with
  | true => g s
  | false => .ok false s
def tOrD (f g : DS → Res Bool) : DS → Res Bool := fun s => (f s).bind fun b s => match b with
  | true => .ok true s
  | false => g s
def tNotD (f : DS → Res Bool) : DS → Res Bool := fun s => (f s).bind fun b s => .ok (!b) s
def eAnd (f g : DS → Res D) : DS → Res D := fun s => (f s).bind fun d s => match d with
  | .bl true => g s
  | .bl false => .ok (.bl false) s
  | _ => .bad
def eOr (f g : DS → Res D) : DS → Res D := fun s => (f s).bind fun d s => match d with
  | .bl true => .ok (.bl true) s
  | .bl false => g s
  | _ => .bad
def eNot (f : DS → Res D) : DS → Res D := fun s => (f s).bind fun d s => match d with
  | .bl b => .ok (.bl (!b)) s
  | _ => .bad
section
variable {X : Cx} {W : WX} {pos : Pos} {e : Expr}
abbrev DW (X : Cx) (W : WX) (e : Expr) (f : DS → Res Bool) : Prop := PW X e (tDT X.K X.mg W f)
theorem PW.imp {X : Cx} {e : Expr} {t t' : TT} (h : PW X e t) (i : ∀ σ H Q, t' σ H Q → t σ H Q) : PW X e t' := ⟨fun wh pins s σ H Q I q => h.run wh pins s σ H Q I (i σ H Q q)⟩
theorem tb_of {f : DS → Res D} {σ : St} {H : Hp} {Q : Bool → Hp → Prop} (h : tDT X.K X.mg W (tB f) σ H Q) : tD X.K X.mg W f σ H fun x H1 => ∃ c, x = .bl c ∧ Q c H1 := by
  obtain ⟨B, F, ds, r, p⟩ := h
  refine ⟨B, F, ds, r, p.bind.mono (fun d s p v F' H' r' s' q => ?_) fun _ _ h => h⟩
  cases d with
  | bl b => exact ⟨b, Rep.bl_ q, p F' H' r' s'⟩
  | _ => exact p.elim
theorem dt_val {f : DS → Res D} (h : DE X W e f) (he : ∀ whole, isTrue e X.env whole = (do let v ← whole; standAt e.pos; holding [v] (truthy v)) := by intro _; rfl) : DT X W e (tB f) :=
  PT.imp (pt_val h he) fun _ _ _ h => tb_of h
theorem dt_cmp {a b : Expr} {op : CmpOp} {r : R2} {fn : D → D → Option D} {f g : DS → Res Ar} (ho : OpR X (compareOp op) r) (hs : OpS2 X.K X.mg r fn) (ha : DA1 X W a f) (hb : DA1 X W b g) (hm : behindInMarks op b = false := by first | exact nomark _ | rfl) : DT X W (.Compare a [op] [b] pos) (tB (eOp2 fn f g)) := by
  refine PT.imp (pt_cmpR ho ha hb hm) fun σ H Q h => ?_
  exact two_d hs (tb_of h)
theorem dw_and1 {f : DS → Res Bool} (h : DT X W e f) : DW X W (.BoolOp .And [e] pos) f := pw_and1 h
theorem dw_or1 {f : DS → Res Bool} (h : DT X W e f) : DW X W (.BoolOp .Or [e] pos) f := pw_or1 h
theorem dw_and {b : Expr} {rest : List Expr} {f g : DS → Res Bool} (ha : DT X W e f) (hb : DW X W (.BoolOp .And (b :: rest) pos) g) : DW X W (.BoolOp .And (e :: b :: rest) pos) (tAndD f g) := by
  refine PW.imp (pw_and ha hb) fun σ H Q ⟨B, F, ds, r, p⟩ => ⟨B, F, ds, r, p.bind.mono (fun d s p F' H' r' s' => ?_) fun _ _ h => h⟩
  cases d with
  | true => exact iteT ⟨B, F', s, r', p.mono (fun b s h F2 H2 r2 s2 => h F2 H2 r2 (s'.trans s2)) fun x s h => h.mono s'⟩
  | false => exact iteF (p F' H' r' s')
theorem dw_or {b : Expr} {rest : List Expr} {f g : DS → Res Bool} (ha : DT X W e f) (hb : DW X W (.BoolOp .Or (b :: rest) pos) g) : DW X W (.BoolOp .Or (e :: b :: rest) pos) (tOrD f g) := by
  refine PW.imp (pw_or ha hb) fun σ H Q ⟨B, F, ds, r, p⟩ => ⟨B, F, ds, r, p.bind.mono (fun d s p F' H' r' s' => ?_) fun _ _ h => h⟩
  cases d with
  | false => exact iteF ⟨B, F', s, r', p.mono (fun b s h F2 H2 r2 s2 => h F2 H2 r2 (s'.trans s2)) fun x s h => h.mono s'⟩
  | true => exact iteT (p F' H' r' s')
theorem dt_bool {f : DS → Res Bool} (h : DW X W e f) : DT X W e f := h.pt
theorem dt_not {f : DS → Res Bool} (h : DT X W e f) : DT X W (.UnaryOp .Not e pos) (tNotD f) := by
  refine PT.imp (pt_not h) fun σ H Q ⟨B, F, ds, r, p⟩ => ⟨B, F, ds, r, p.bind.mono (fun d s p F' H' r' s' => p F' H' r' s') fun _ _ h => h⟩
theorem de_one {op} {f : DS → Res D} (h : DE X W e f) : DE X W (.BoolOp op [e] pos) f := pe_one h
theorem de_and {b : Expr} {rest : List Expr} {f g : DS → Res D} (ha : DE X W e f) (hb : DE X W (.BoolOp .And (b :: rest) pos) g) : DE X W (.BoolOp .And (e :: b :: rest) pos) (eAnd f g) := by
  refine PE.imp (pe_and ha hb) fun σ H Q ⟨B, F, ds, r, p⟩ => ⟨B, F, ds, r, p.bind.mono (fun d s p v F' H' r' s' q => ?_) fun _ _ h => h⟩
  cases d with
  | bl c =>
    refine ⟨c, Rep.bl_ q, ?_⟩
    cases c with
    | true => exact iteT ⟨B, F', s, r', p.mono (fun b s h v F2 H2 r2 s2 => h v F2 H2 r2 (s'.trans s2)) fun x s h => h.mono s'⟩
    | false => exact iteF (p _ F' H' r' s' Rep.bl)
  | _ => exact p.elim
theorem de_or {b : Expr} {rest : List Expr} {f g : DS → Res D} (ha : DE X W e f) (hb : DE X W (.BoolOp .Or (b :: rest) pos) g) : DE X W (.BoolOp .Or (e :: b :: rest) pos) (eOr f g) := by
  refine PE.imp (pe_or ha hb) fun σ H Q ⟨B, F, ds, r, p⟩ => ⟨B, F, ds, r, p.bind.mono (fun d s p v F' H' r' s' q => ?_) fun _ _ h => h⟩
  cases d with
  | bl c =>
    refine ⟨c, Rep.bl_ q, ?_⟩
    cases c with
    | false => exact iteF ⟨B, F', s, r', p.mono (fun b s h v F2 H2 r2 s2 => h v F2 H2 r2 (s'.trans s2)) fun x s h => h.mono s'⟩
    | true => exact iteT (p _ F' H' r' s' Rep.bl)
  | _ => exact p.elim
theorem de_not {f : DS → Res D} (h : DE X W e f) : DE X W (.UnaryOp .Not e pos) (eNot f) := by
  refine PE.imp (pe_not h) fun σ H Q ⟨B, F, ds, r, p⟩ => ⟨B, F, ds, r, p.bind.mono (fun d s p v F' H' r' s' q => ?_) fun _ _ h => h⟩
  cases d with
  | bl c => exact ⟨c, Rep.bl_ q, p _ F' H' r' s' Rep.bl⟩
  | _ => exact p.elim
end
/-! ### statements -/
def sNil : DS → Res Fl := fun s => .ok .nx s
def sSeq (f g : DS → Res Fl) : DS → Res Fl := fun s => (f s).bind fun fl s => match fl with
  | .nx => g s
  | fl => .ok fl s
def setSh (i : Nat) (d : D) (s : DS) : Option DS := match s[i]? with
  | some x => if x.pin then none else some (s.set i (.sh d))
  | none => none
def setOw (i : Nat) (x : Own) (s : DS) : Option DS := match s[i]? with
  | some y => if y.pin then none else some (s.set i (.ow false x))
  | none => none
def sSet (i : Nat) (f : DS → Res D) : DS → Res Fl := fun s => (f s).bind fun d s => match setSh i d s with
  | some s => .ok .nx s
  | none => .bad
def sSetO (i : Nat) (f : DS → Res Own) : DS → Res Fl := fun s => (f s).bind fun x s => match setOw i x s with
  | some s => .ok .nx s
  | none => .bad
def sRet (f : DS → Res D) : DS → Res Fl := fun s => (f s).bind fun d s => .ok (.rt d) s
def sRetN : DS → Res Fl := fun s => .ok (.rt .non) s
def sIf (c : DS → Res Bool) (f g : DS → Res Fl) : DS → Res Fl := fun s => (c s).bind fun b s => match b with
  | true => f s
  | false => g s
def sDrop (f : DS → Res D) : DS → Res Fl := fun s => (f s).bind fun _ s => .ok .nx s
def sBreak : DS → Res Fl := fun s => .ok .bk s
def sCont : DS → Res Fl := fun s => .ok .ct s
section
variable {K : PySem.W.Frag} {mg : Str → Option Value} {B : Base} {F H : Hp} {σ : St} {s s' : DS}
theorem Rel.setSh (r : Rel K mg B F H σ s) {i : Nat} {d : D} (e : setSh i d s = some s') {v : V} (q : Rep K mg F d v) : Rel K mg B F H (σ.set i (some v)) s' := by
  unfold DL.setSh at e
  split at e
  · rename_i x e1
    split at e
    · cases e
    · rename_i hp
      cases e
      exact r.setSlot (fun y ey => by rw [e1] at ey; cases ey; simpa using hp) rfl (.inl rfl) q
  · cases e
theorem Rel.setOw (r : Rel K mg B F H σ s) {i : Nat} {x : Own} (e : setOw i x s = some s') {p : Addr} {o : HO} (f : F p = none) (hp : H p = some o) (q : OwnObj K mg F x o) (h0 : B.H0 p = none ∨ B.ow p) (hn : ∀ (j : Nat) y, s[j]? = some y → y.isOw = true → σ[j]? ≠ some (some (.ref p))) : Rel K mg B F H (σ.set i (some (.ref p))) s' := by
  unfold DL.setOw at e
  split at e
  · rename_i y e1
    split at e
    · cases e
    · rename_i hpin
      cases e
      exact r.setSlot (fun y ey => by rw [e1] at ey; cases ey; simpa using hpin) rfl (.inr ⟨p, rfl, h0, fun j y _ ej hy => hn j y ej hy⟩) ⟨p, o, rfl, f, hp, q⟩
  · cases e
end
section
variable {X : Cx} {W : WX} {pos : Pos} {e : Expr} {st : Stmt} {rest : List Stmt}
theorem dss_nil : DSs X W [] sNil := PSs.imp pss_nil fun E σ H ⟨B, F, ds, r, p⟩ => p σ F H r (Same.refl _)
theorem seq_post {f g : DS → Res Fl} {B : Base} {F : Hp} {ds : DS} {E : Ends} (p : Post B F (sSeq f g ds) (fun fl ds' => FlPost X.K X.mg B F E ds' fl) (fun x s => ∀ σ', Raised X.K X.mg B F W σ' x s)) :
    Post B F (f ds) (fun fl ds' => FlPost X.K X.mg B F { E with nx := tDS X.K X.mg W g E } ds' fl) (fun x s => ∀ σ', Raised X.K X.mg B F W σ' x s) := by
  refine p.bind.mono (fun fl s p => ?_) fun _ _ h => h
  cases fl with
  | nx => exact fun σ' F' H' r' s' => ⟨B, F', s, r', p.mono (fun fl s h => h.mono s') fun x s h σ => (h σ).mono s'⟩
  | rt d => exact p
  | bk => exact p
  | ct => exact p
theorem dss_cons {f g : DS → Res Fl} (h1 : DSt X W st f) (h2 : DSs X W rest g) : DSs X W (st :: rest) (sSeq f g) :=
  PSs.imp (pss_cons h1 h2) fun E σ H ⟨B, F, ds, r, p⟩ => ⟨B, F, ds, r, seq_post p⟩
theorem dss_one {f : DS → Res Fl} (h1 : DSt X W st f) : DSs X W [st] f := pss_one h1
theorem ds_set {i : Nat} {x : Str} {f : DS → Res D} {pos' : Pos} (hN : X.N.Nodup) (he : DE X W e f) (hi : X.N[i]? = some x := by rfl) (hx : Loc X.env.scope x := by first | exact Or.inl rfl | exact Or.inr rfl) (hs : swapsWith e (some (.Name x pos')) pos.line X.env = pure false := by rfl) (hf : X.fn x = true ∨ X.env.scope.names.lookup x = some .local := by first | exact .inl rfl | exact .inr rfl | assumption) :
    DSt X W (.Assign [.Name x pos'] e pos) (sSet i f) := by
  refine PS.imp (ps_set hN hi hx he hs hf) fun E σ H ⟨B, F, ds, r, p⟩ => ⟨B, F, ds, r, p.bind.mono (fun d s p v F' H' r' s' q => ?_) fun x s h => h σ⟩
  cases e2 : setSh i d s with
  | none => rw [e2] at p; exact p.elim
  | some s2 =>
    rw [e2] at p
    exact p _ F' H' (r'.setSh e2 q) s'
theorem ds_setO {i : Nat} {x : Str} {f : DS → Res Own} {pos' : Pos} (hN : X.N.Nodup) (he : DN X W e f) (hi : X.N[i]? = some x := by rfl) (hx : Loc X.env.scope x := by first | exact Or.inl rfl | exact Or.inr rfl) (hs : swapsWith e (some (.Name x pos')) pos.line X.env = pure false := by rfl) (hf : X.fn x = true ∨ X.env.scope.names.lookup x = some .local := by first | exact .inl rfl | exact .inr rfl | assumption) :
    DSt X W (.Assign [.Name x pos'] e pos) (sSetO i f) := by
  refine PS.imp (ps_set hN hi hx he hs hf) fun E σ H ⟨B, F, ds, r, p⟩ => ⟨B, F, ds, r, p.bind.mono (fun d s p pa o F' H' r' s' f' hp q h0 hn => ?_) fun x s h => h σ⟩
  cases e2 : setOw i d s with
  | none => rw [e2] at p; exact p.elim
  | some s2 =>
    rw [e2] at p
    exact p _ F' H' (r'.setOw e2 f' hp q h0 hn) s'
theorem ds_ret {f : DS → Res D} (he : DE X W e f) : DSt X W (.Return (some e) pos) (sRet f) :=
  PS.imp (ps_ret he) fun E σ H ⟨B, F, ds, r, p⟩ => ⟨B, F, ds, r, p.bind.mono (fun d s p v F' H' r' s' q => p v σ F' H' r' s' q) fun x s h => h σ⟩
theorem ds_retN : DSt X W (.Return none pos) sRetN := PS.imp ps_retN fun E σ H ⟨B, F, ds, r, p⟩ => p .non σ F H r (Same.refl _) Rep.non
theorem ds_pass : DSt X W (.Pass pos) sNil := PS.imp ps_pass fun E σ H ⟨B, F, ds, r, p⟩ => p σ F H r (Same.refl _)
theorem ds_break : DSt X W (.Break pos) sBreak := PS.imp ps_break fun E σ H ⟨B, F, ds, r, p⟩ => p σ F H r (Same.refl _)
theorem ds_cont : DSt X W (.Continue pos) sCont := PS.imp ps_continue fun E σ H ⟨B, F, ds, r, p⟩ => p σ F H r (Same.refl _)
theorem ds_expr {f : DS → Res D} (he : DE X W e f) (hs : swapsWith e none pos.line X.env = pure false := by rfl) : DSt X W (.Expr e pos) (sDrop f) :=
  PS.imp (ps_expr he hs) fun E σ H ⟨B, F, ds, r, p⟩ => ⟨B, F, ds, r, p.bind.mono (fun d s p v F' H' r' s' q => p σ F' H' r' s') fun x s h => h σ⟩
theorem ds_if {c : Expr} {a b : List Stmt} {fc : DS → Res Bool} {f g : DS → Res Fl} (hc : DT X W c fc) (ha : DSs X W a f) (hb : DSs X W b g) : DSt X W (.If c a b pos) (sIf fc f g) := by
  refine PS.imp (ps_if hc ha hb) fun E σ H ⟨B, F, ds, r, p⟩ => ⟨B, F, ds, r, p.bind.mono (fun d s p F' H' r' s' => ?_) fun x s h => h σ⟩
  have p' := p.mono (F' := F') (fun fl s h => FlPost.mono s' h) fun x s h σ => (h σ).mono s'
  cases d with
  | true => exact iteT ⟨B, F', s, r', p'⟩
  | false => exact iteF ⟨B, F', s, r', p'⟩
end
/-! ### targets -/
def gNm (i : Nat) : D → DS → Option DS := fun d s => setSh i d s
def gTs : List (D → DS → Option DS) → List D → DS → Option DS
  | [], [], s => some s
  | g :: gs, d :: ds, s => (g d s).bind (gTs gs ds)
  | _, _, _ => none
def gTp (gs : List (D → DS → Option DS)) : D → DS → Option DS
  | .tup ds, s => gTs gs ds s
  | _, _ => none
def gLs (gs : List (D → DS → Option DS)) : D → DS → Option DS
  | .lst ds, s => gTs gs ds s
  | _, _ => none
def tDGs (K : PySem.W.Frag) (mg : Str → Option Value) (gi : List Nat) (gs : List (D → DS → Option DS)) : TGs := fun vs σ H Q => ∃ B F s ds s', Rel K mg B F H σ s ∧ Reps K mg F ds vs ∧ gTs gs ds s = some s' ∧ ∀ σ', Rel K mg B F H σ' s' → σ'.length = σ.length → (∀ j, j ∉ gi → σ'[j]? = σ[j]?) → Q σ' H
abbrev DGs (X : Cx) (ts : List Expr) (gi : List Nat) (gs : List (D → DS → Option DS)) : Prop := PGs X ts (tDGs X.K X.mg gi gs)
theorem PGs.imp {X : Cx} {e : List Expr} {t t' : TGs} (h : PGs X e t) (i : ∀ v σ H Q, t' v σ H Q → t v σ H Q) : PGs X e t' := ⟨fun pins s σ H v u Q I r q => h.run pins s σ H v u Q I r (i v σ H Q q)⟩
section
variable {X : Cx} {W : WX} {pos : Pos} {e : Expr}
theorem dg_nm {i : Nat} {x : Str} (hN : X.N.Nodup) (hi : X.N[i]? = some x := by rfl) (hx : Loc X.env.scope x := by first | exact Or.inl rfl | exact Or.inr rfl) (hf : X.fn x = true ∨ X.env.scope.names.lookup x = some .local := by first | exact .inl rfl | exact .inr rfl | assumption) : DG X (.Name x pos) [i] (gNm i) :=
  PG.imp (pg_name hN hi hx hf) fun v σ H Q ⟨B, F, ds, d, ds', r, q, e, k⟩ => k _ (r.setSh e q) (by simp) fun j hj => by rw [List.getElem?_set_ne (by simpa using fun z => hj (by simp [z]))]
theorem dgs_nil : DGs X [] [] [] := PGs.imp pgs_nil fun vs σ H Q ⟨B, F, s, ds, s', r, q, e, k⟩ => by
  cases ds with
  | nil => cases e; exact ⟨by unfold Reps at q; exact q, k σ r rfl fun _ _ => rfl⟩
  | cons d ds => cases e
theorem dgs_cons {es : List Expr} {gi gj : List Nat} {g : D → DS → Option DS} {gs : List (D → DS → Option DS)} (h1 : DG X e gi g) (h2 : DGs X es gj gs) (hs : (assignEach (e :: es) X.env).map (·.2) = assign e X.env :: (assignEach es X.env).map (·.2) := by rfl) : DGs X (e :: es) (gi ++ gj) (g :: gs) := by
  refine PGs.imp (pgs_cons h1 h2 hs) fun vs σ H Q ⟨B, F, s, ds, s', r, q, e, k⟩ => ?_
  cases ds with
  | nil => cases e
  | cons d ds =>
    unfold Reps at q
    obtain ⟨v, t, ev, q1, q2⟩ := q
    have e : (g d s).bind (gTs gs ds) = some s' := e
    cases e2 : g d s with
    | none => rw [e2] at e; cases e
    | some s2 =>
      rw [e2] at e
      exact ⟨v, t, ev, B, F, s, d, s2, r, q1, e2, fun σ2 r2 l2 h2 => ⟨B, F, s2, ds, s', r2, q2, e, fun σ3 r3 l3 h3 => k σ3 r3 (l3.trans l2) fun j hj => (h3 j fun z => hj (List.mem_append_right _ z)).trans (h2 j fun z => hj (List.mem_append_left _ z))⟩⟩
theorem gTs_len : ∀ {gs : List (D → DS → Option DS)} {ds : List D} {s s' : DS}, gTs gs ds s = some s' → ds.length = gs.length
  | [], [], _, _, _ => rfl
  | g :: gs, d :: ds, s, s', e => by
    have e : (g d s).bind (gTs gs ds) = some s' := e
    cases e2 : g d s with
    | none => rw [e2] at e; cases e
    | some s2 => rw [e2] at e; simp [gTs_len (show gTs gs ds s2 = some s' from e)]
  | [], _ :: _, _, _, e => by cases e
  | _ :: _, [], _, _, e => by cases e
theorem dg_tup {es : List Expr} {k : Nat} {gi : List Nat} {gs : List (D → DS → Option DS)} (hc : X.calm = true) (h : DGs X es gi gs) (hn : (assignEach es X.env).length = gs.length := by rfl) (hst : (assignEach es X.env).findIdx? (·.1) = none := by rfl) : DG X (.Tuple es k pos) gi (gTp gs) := by
  refine PG.imp (pg_tup hc h hn hst) fun v σ H Q ⟨B, F, s, d, s', r, q, e, kk⟩ => ?_
  cases d with
  | tup ds =>
    unfold Rep at q
    obtain ⟨a, vs, ev, sq, rp⟩ := q
    exact ⟨a, vs, ev, .of (r.sub _ _ sq), by rw [← rp.len]; exact gTs_len e, B, F, s, ds, s', r, rp, e, kk⟩
  | _ => cases e
theorem dg_lst {es : List Expr} {k : Nat} {gi : List Nat} {gs : List (D → DS → Option DS)} (hc : X.calm = true) (h : DGs X es gi gs) (hn : (assignEach es X.env).length = gs.length := by rfl) (hst : (assignEach es X.env).findIdx? (·.1) = none := by rfl) : DG X (.Tuple es k pos) gi (gLs gs) := by
  refine PG.imp (pg_lst hc h hn hst) fun v σ H Q ⟨B, F, s, d, s', r, q, e, kk⟩ => ?_
  cases d with
  | lst ds =>
    unfold Rep at q
    obtain ⟨a, vs, ev, sq, rp⟩ := q
    exact ⟨a, vs, ev, .of (r.sub _ _ sq), by rw [← rp.len]; exact gTs_len e, B, F, s, ds, s', r, rp, e, kk⟩
  | _ => cases e
/-- target = e -/
def sAsg (g : D → DS → Option DS) (f : DS → Res D) : DS → Res Fl := fun s => (f s).bind fun d s => match g d s with
  | some s => .ok .nx s
  | none => .bad
theorem ds_asg {tg : Expr} {gi : List Nat} {f : DS → Res D} {g : D → DS → Option DS} (he : DE X W e f) (hg : DG X tg gi g) (hs : swapsWithSole [tg] e pos.line X.env = pure false := by rfl) (hw : swappedStores [tg] e X.env = pure none := by rfl)
    (h1 : (assignEach [tg] X.env).map (·.2) = [assign tg X.env] := by rfl) : DSt X W (.Assign [tg] e pos) (sAsg g f) := by
  refine PS.imp (ps_asg he hg hs hw h1) fun E σ H ⟨B, F, ds, r, p⟩ => ⟨B, F, ds, r, p.bind.mono (fun d s p v F' H' r' s' q => ?_) fun x s h => h σ⟩
  cases e2 : g d s with
  | none => rw [e2] at p; exact p.elim
  | some s2 =>
    rw [e2] at p
    exact ⟨B, F', s, d, s2, r', q, e2, fun σ2 r2 _ _ => p σ2 F' H' r2 s'⟩
/-- a, b = x, y -/
def sPar (i j : Nat) (f : DS → Res (List Ar)) : DS → Res Fl := fun s => (f s).bind fun as s => match as with
  | [.v d, .v e] => match (setSh i d s).bind (setSh j e) with
    | some s => .ok .nx s
    | none => .bad
  | _ => .bad
theorem ds_par {i j : Nat} {x y : Str} {a b : Expr} {f : DS → Res (List Ar)} {px py pt : Pos} {kt k2 pt2} (hc : X.calm = true) (hN : X.N.Nodup) (ha : DAs X W [a, b] f) (hij : i ≠ j := by decide) (hi : X.N[i]? = some x := by rfl) (hj : X.N[j]? = some y := by rfl)
    (hx : X.env.scope.names.lookup x = some .local := by rfl) (hy : X.env.scope.names.lookup y = some .local := by rfl)
    (hw : swappedStores [.Tuple [.Name x px, .Name y py] kt pt] (.Tuple [a, b] k2 pt2) X.env = pure (some [x, y]) := by rfl)
    (hs : swapsWithSole [.Tuple [.Name x px, .Name y py] kt pt] (.Tuple [a, b] k2 pt2) pos.line X.env = pure false := by rfl) :
    DSt X W (.Assign [.Tuple [.Name x px, .Name y py] kt pt] (.Tuple [a, b] k2 pt2) pos) (sPar i j f) := by
  refine PS.imp (ps_par hc hN hi hj hij hx hy ha hw hs) fun E σ H ⟨B, F, ds, r, p⟩ => ⟨B, F, ds, r, p.bind.mono (fun as s p vs F' H' r' s' q => ?_) fun x s h => h σ⟩
  split at p
  · rename_i d e2
    obtain ⟨v, t, ev, q1, w, t2, ew, q2, en⟩ := q
    subst ev; subst ew; subst en
    cases e3 : setSh i d s with
    | none => rw [e3] at p; exact p.elim
    | some s2 =>
      rw [e3, Option.bind_some] at p
      cases e4 : setSh j e2 s2 with
      | none => rw [e4] at p; exact p.elim
      | some s3 =>
        rw [e4] at p
        exact ⟨v, w, rfl, p _ F' H' ((r'.setSh e3 q1).setSh e4 q2) s'⟩
  · exact p.elim
end
end DL

set_option autoImplicit true
/-! D-layer, part e: loops, comprehensions, locks. -/
namespace DL
open PySem PySem.Spec PyProof.Rows L2
set_option autoImplicit false
/-! ### what is walked -/
section
variable (K : PySem.W.Frag) (mg : Str → Option Value)
/-- the iterator yields the items, whatever is made meanwhile -/
structure WalkD (P : Hp → Prop) (J : It) (F : Hp) (items : List D) : Prop where
  go : ∀ i F' H', Same F F' → Same F' H' → P H' → i < items.length → J.go i H'
  yld : ∀ i F' H' x H'', Same F F' → Same F' H' → P H' → i < items.length → J.yld i H' x H'' → ∃ F'' d, items[i]? = some d ∧ Grow F' H' F'' H'' ∧ Rep K mg F'' d x
  stop : ∀ i F' H', Same F F' → Same F' H' → P H' → i = items.length → J.stop i H'
def tDI (W : WX) (f : DS → Res (List D)) : TI := fun σ H R => ∃ B F ds, Rel K mg B F H σ ds ∧ Post B F (f ds)
  (fun items ds' => ∀ J F' H', Rel K mg B F' H' σ ds' → Same F F' → WalkD K mg (fun _ => True) J F' items → R J H') (Raised K mg B F W σ)
end
abbrev DI (X : Cx) (W : WX) (tg iter : Expr) (f : DS → Res (List D)) : Prop := PI X tg iter (tDI X.K X.mg W f)
theorem PI.imp {X : Cx} {tg e : Expr} {t t' : TI} (h : PI X tg e t) (i : ∀ σ H Q, t' σ H Q → t σ H Q) : PI X tg e t' := ⟨fun pins s σ H Q I q => h.run pins s σ H Q I (i σ H Q q)⟩
theorem WalkD.mono {K : PySem.W.Frag} {mg : Str → Option Value} {J : It} {F F' : Hp} {items : List D} {P : Hp → Prop} (w : WalkD K mg P J F items) (s : Same F F') : WalkD K mg P J F' items :=
  ⟨fun i F2 H2 s2 => w.go i F2 H2 (s.trans s2), fun i F2 H2 x H3 s2 => w.yld i F2 H2 x H3 (s.trans s2), fun i F2 H2 s2 => w.stop i F2 H2 (s.trans s2)⟩
/-! ### for -/
def forM (g : D → DS → Option DS) (body : DS → Res Fl) : List D → DS → Res Fl
  | [], s => .ok .nx s
  | d :: ds, s => match g d s with
    | none => .bad
    | some s1 => (body s1).bind fun fl s2 => match fl with
      | .nx => forM g body ds s2
      | .ct => forM g body ds s2
      | .bk => .ok .nx s2
      | .rt d => .ok (.rt d) s2
def sFor (f : DS → Res (List D)) (g : D → DS → Option DS) (body : DS → Res Fl) : DS → Res Fl := fun s => (f s).bind fun items s => forM g body items s
section
variable {X : Cx} {W : WX} {pos : Pos} {e : Expr}
/-- the loop's reading, the items known -/
theorem for_read {gi : List Nat} {g : D → DS → Option DS} {body : DS → Res Fl} {B : Base} {F H : Hp} {σ : St} {s : DS} {E : Ends} {J : It} {items : List D} {P : Hp → Prop} (hP : ∀ F' H' σ' s', Rel X.K X.mg B F' H' σ' s' → P H') (r : Rel X.K X.mg B F H σ s) (w : WalkD X.K X.mg P J F items)
    (p : Post B F (forM g body items s) (fun fl ds' => FlPost X.K X.mg B F E ds' fl) (fun x s => ∀ σ', Raised X.K X.mg B F W σ' x s)) :
    ∃ Wv : Nat → Nat → St → Hp → Prop, (∃ m, Wv 0 m σ H) ∧ ∀ i m σ H, Wv i m σ H →
      (J.stop i H ∧ E.nx σ H) ∨ (J.go i H ∧ ∃ N : St → Hp → Prop, (∀ σ' H', N σ' H' → ∃ m', m' < m ∧ Wv (i + 1) m' σ' H') ∧ ∀ x H', J.yld i H x H' → tDG X.K X.mg gi g x σ H' fun σ2 H2 => tDS X.K X.mg W body { E with nx := N, ct := N, bk := E.nx } σ2 H2) := by
  refine ⟨fun i m σ H => m = items.length - i ∧ i ≤ items.length ∧ ∃ F' s', Rel X.K X.mg B F' H σ s' ∧ Same F F' ∧ Post B F' (forM g body (items.drop i) s') (fun fl ds' => FlPost X.K X.mg B F' E ds' fl) (fun x s => ∀ σ', Raised X.K X.mg B F' W σ' x s),
    ⟨items.length, by omega, Nat.zero_le _, F, s, r, Same.refl F, by simpa using p⟩, ?_⟩
  rintro i m σ H ⟨rfl, hi, F', s', r', sm, p⟩
  by_cases hlt : i < items.length
  · rw [List.drop_eq_getElem_cons hlt] at p
    refine .inr ⟨w.go i F' H sm r'.sub (hP _ _ _ _ r') hlt, fun σ' H' => items.length - (i + 1) = items.length - (i + 1) ∧ i + 1 ≤ items.length ∧ ∃ F'' s'', Rel X.K X.mg B F'' H' σ' s'' ∧ Same F F'' ∧ Post B F'' (forM g body (items.drop (i + 1)) s'') (fun fl ds' => FlPost X.K X.mg B F'' E ds' fl) (fun x s => ∀ σ', Raised X.K X.mg B F'' W σ' x s),
      fun σ' H' h => ⟨items.length - (i + 1), by omega, h⟩, fun x H' y => ?_⟩
    obtain ⟨F2, d, e1, gr, rp⟩ := w.yld i F' H x H' sm r'.sub (hP _ _ _ _ r') hlt y
    rw [List.getElem?_eq_getElem hlt] at e1
    cases e1
    obtain ⟨r2, sm2⟩ := gr.rel r'
    have sm3 : Same F F2 := sm.trans sm2
    have p : Post B F' (match g items[i] s' with
      | none => .bad
      | some s1 => (body s1).bind fun fl s2 => match fl with
        | .nx => forM g body (items.drop (i + 1)) s2
        | .ct => forM g body (items.drop (i + 1)) s2
        | .bk => .ok .nx s2
        | .rt d => .ok (.rt d) s2) (fun fl ds' => FlPost X.K X.mg B F' E ds' fl) (fun x s => ∀ σ', Raised X.K X.mg B F' W σ' x s) := p
    cases eg : g items[i] s' with
    | none => rw [eg] at p; exact p.elim
    | some s1 =>
      rw [eg] at p
      refine ⟨B, F2, s', items[i], s1, r2, rp, eg, fun σ2 r3 _ _ => ⟨B, F2, s1, r3, p.bind.mono (fun fl s2 p => ?_) fun x s h σ => (h σ).mono sm2⟩⟩
      cases fl with
      | nx => exact fun σ4 F4 H4 r4 s4 => ⟨rfl, hlt, F4, s2, r4, sm3.trans s4, p.mono (fun fl s h => h.mono (sm2.trans s4)) fun x s h σ => (h σ).mono (sm2.trans s4)⟩
      | ct => exact fun σ4 F4 H4 r4 s4 => ⟨rfl, hlt, F4, s2, r4, sm3.trans s4, p.mono (fun fl s h => h.mono (sm2.trans s4)) fun x s h σ => (h σ).mono (sm2.trans s4)⟩
      | bk => exact fun σ4 F4 H4 r4 s4 => p σ4 F4 H4 r4 (sm2.trans s4)
      | rt d => exact fun v σ4 F4 H4 r4 s4 q => p v σ4 F4 H4 r4 (sm2.trans s4) q
  · have e1 : i = items.length := by omega
    subst e1
    rw [List.drop_length] at p
    exact .inl ⟨w.stop _ F' H sm r'.sub (hP _ _ _ _ r') rfl, p σ F' H r' (Same.refl _)⟩
theorem ds_for {k : Nat} {tg iter : Expr} {body : List Stmt} {f : DS → Res (List D)} {gi : List Nat} {g : D → DS → Option DS} {b : DS → Res Fl} (C : Ctx k X W) (hi : DI X W tg iter f) (hg : DG X tg gi g) (hb : DSs X W body b)
    (hs : ∀ x, foldedSetIterable iter X.env x = pure x := by intro _; rfl) : DSt X W (.For tg iter body [] pos) (sFor f g b) := by
  refine PS.imp (ps_for C.po C.calm hi hg hb hs) fun E σ H ⟨B, F, ds, r, p⟩ => ⟨B, F, ds, r, p.bind.mono (fun items s p J F' H' r' s' w => ?_) fun x s h => h σ⟩
  exact for_read (fun _ _ _ _ _ => trivial) r' w (p.mono (fun fl s h => h.mono s') fun x s h σ => (h σ).mono s')
end
/-! ### locks -/
/-- slot i is not to be looked at meanwhile -/
def lockB (B : Base) (F H : Hp) (i : Nat) (p : Addr) : Base := ⟨F, H, fun j => if j = i then some p else B.io j, fun a => a ≠ p ∧ (B.H0 a = none ∨ B.ow a)⟩
section
variable {K : PySem.W.Frag} {mg : Str → Option Value} {B : Base} {F H : Hp} {σ : St} {s : DS}
theorem upd_self {H : Hp} {p : Addr} {o : HO} (h : H p = some o) : upd H p o = H := by
  funext b
  by_cases z : b = p
  · subst z; rw [upd_same, h]
  · rw [upd_ne z]
theorem Rel.lock (r : Rel K mg B F H σ s) {i : Nat} {io : Bool} {x : Own} {p : Addr} (o1 : HO) (e : s[i]? = some (.ow io x)) (ep : σ[i]? = some (some (.ref p))) : Rel K mg (lockB B F (upd H p o1) i p) F (upd H p o1) σ (s.set i .lk) := by
  have hl := (List.getElem?_eq_some_iff.mp e).1
  obtain ⟨p1, o, e1, f, hp, q⟩ := r.owned e
  rw [ep] at e1
  cases e1
  have key : ∀ {j y}, (s.set i .lk)[j]? = some y → (j = i ∧ y = .lk) ∨ (j ≠ i ∧ s[j]? = some y) := fun {j y} ey => by
    by_cases z : j = i
    · subst z
      rw [List.getElem?_set_self hl] at ey
      exact .inl ⟨rfl, (Option.some.inj ey).symm⟩
    · rw [List.getElem?_set_ne (Ne.symm z)] at ey
      exact .inr ⟨z, ey⟩
  refine ⟨fun a u h => ?_, Same.refl F, fun a o h => .inr (.inl h), fun a o h _ => h, by simp [r.len], fun j y ey => ?_, fun j k y z q hjk ey ez oy oz e1 e2 => ?_, fun j y ey hp => ?_, fun j q eq => ?_, fun j y q ey hy e1 => ?_⟩
  · have ne : a ≠ p := fun z => by rw [z, f] at h; cases h
    rw [upd_ne ne]; exact r.sub a u h
  · rcases key ey with ⟨rfl, rfl⟩ | ⟨z, e2⟩
    · exact .inr ⟨_, ep, trivial⟩
    · refine (r.slot j y e2).imp id fun ⟨v, e3, q3⟩ => ⟨v, e3, ?_⟩
      cases y with
      | no => trivial
      | sh d => exact q3
      | lk => trivial
      | ow io2 y2 =>
        obtain ⟨p2, o2, ev, f2, h2, q2⟩ := q3
        subst ev
        have ne : p2 ≠ p := fun zz => by
          subst zz
          exact r.apart j i _ _ p2 z e2 e rfl rfl e3 ep
        exact ⟨p2, o2, rfl, f2, by rw [upd_ne ne]; exact h2, q2⟩
  · rcases key ey with ⟨rfl, rfl⟩ | ⟨_, e3⟩
    · cases oy
    · rcases key ez with ⟨rfl, rfl⟩ | ⟨_, e4⟩
      · cases oz
      · exact r.apart j k y z q hjk e3 e4 oy oz e1 e2
  · rcases key ey with ⟨rfl, rfl⟩ | ⟨z, e2⟩
    · exact ⟨p, if_pos rfl, ep⟩
    · obtain ⟨q, e3, e4⟩ := r.pin j y e2 hp
      exact ⟨q, (if_neg z).trans e3, e4⟩
  · by_cases z : j = i
    · subst z
      exact ⟨.lk, by rw [List.getElem?_set_self hl], rfl⟩
    · have eq' : B.io j = some q := (if_neg z).symm.trans eq
      obtain ⟨y, e2, e3⟩ := r.io j q eq'
      exact ⟨y, by rw [List.getElem?_set_ne (Ne.symm z)]; exact e2, e3⟩
  · rcases key ey with ⟨rfl, rfl⟩ | ⟨z, e2⟩
    · cases hy
    · refine .inr ⟨fun zz => ?_, r.onew j y q e2 hy e1⟩
      subst zz
      exact r.apart j i _ _ q z e2 e hy rfl e1 ep
theorem Rel.unlock (r : Rel K mg B F H σ s) {i : Nat} {io : Bool} {x : Own} {p : Addr} {o o1 : HO} (e : s[i]? = some (.ow io x)) (ep : σ[i]? = some (some (.ref p))) (hp : H p = some o) (nt : ∀ xs, o1 ≠ .tup xs) {F' H' : Hp} {σ' : St} {s' : DS} (r' : Rel K mg (lockB B F (upd H p o1) i p) F' H' σ' s') :
    H' p = some o1 ∧ Rel K mg B F' (upd H' p o) σ' (s'.set i (.ow io x)) := by
  obtain ⟨p1, o2, e1, f, hp2, q⟩ := r.owned e
  rw [ep] at e1
  cases e1
  rw [hp] at hp2
  cases hp2
  obtain ⟨yi, ei, pi⟩ := r'.io i p (if_pos rfl)
  have hl := (List.getElem?_eq_some_iff.mp ei).1
  obtain ⟨p2, ei2, ep'⟩ := r'.pin i yi ei pi
  have : p2 = p := by
    have z : (lockB B F (upd H p o1) i p).io i = some p := if_pos rfl
    rw [ei2] at z
    exact Option.some.inj z
  subst this
  have now : ¬ (lockB B F (upd H p2 o1) i p2).ow p2 := fun z => z.1 rfl
  have hp' : H' p2 = some o1 := r'.frame p2 o1 upd_same now
  have f' : F' p2 = none := by
    cases z : F' p2 with
    | none => rfl
    | some u =>
      rcases r'.new p2 u z with ⟨xs, rfl⟩ | h | h | h
      · rw [r'.sub _ _ z] at hp'
        cases hp'
        exact (nt xs rfl).elim
      · rw [show (lockB B F (upd H p2 o1) i p2).F0 = F from rfl, f] at h; cases h
      · rw [show (lockB B F (upd H p2 o1) i p2).H0 = upd H p2 o1 from rfl, upd_same] at h; cases h
      · exact (now h).elim
  have key : ∀ {j y}, (s'.set i (.ow io x))[j]? = some y → (j = i ∧ y = .ow io x) ∨ (j ≠ i ∧ s'[j]? = some y) := fun {j y} ey => by
    by_cases z : j = i
    · subst z
      rw [List.getElem?_set_self hl] at ey
      exact .inl ⟨rfl, (Option.some.inj ey).symm⟩
    · rw [List.getElem?_set_ne (Ne.symm z)] at ey
      exact .inr ⟨z, ey⟩
  have notp : ∀ {j y}, j ≠ i → s'[j]? = some y → y.isOw = true → σ'[j]? ≠ some (some (.ref p2)) := fun {j y} z ey hy e1 => by
    rcases r'.onew j y p2 ey hy e1 with h | h
    · rw [show (lockB B F (upd H p2 o1) i p2).H0 = upd H p2 o1 from rfl, upd_same] at h; cases h
    · exact now h
  refine ⟨hp', ⟨fun a u h => ?_, r.ext.trans r'.ext, fun a u h => ?_, fun a u h n => ?_, by simp [r'.len], fun j y ey => ?_, fun j k y z q hjk ey ez oy oz e1 e2 => ?_, fun j y ey hp => ?_, fun j q eq => ?_, fun j y q ey hy e1 => ?_⟩⟩
  · have ne : a ≠ p2 := fun z => by rw [z, f'] at h; cases h
    rw [upd_ne ne]; exact r'.sub a u h
  · rcases r'.new a u h with h1 | h1 | h1 | h1
    · exact .inl h1
    · exact r.new a u h1
    · have ne : a ≠ p2 := fun z => by rw [z, f'] at h; cases h
      rw [show (lockB B F (upd H p2 o1) i p2).H0 = upd H p2 o1 from rfl, upd_ne ne] at h1
      exact .inr (.inr (r.fresh0 h1))
    · exact .inr (.inr h1.2)
  · have h1 := r.frame a u h n
    by_cases z : a = p2
    · subst z
      rw [hp] at h1; cases h1
      exact upd_same
    · rw [upd_ne z]
      refine r'.frame a u (by rw [show (lockB B F (upd H p2 o1) i p2).H0 = upd H p2 o1 from rfl, upd_ne z]; exact h1) fun w => ?_
      rcases w.2 with w | w
      · rw [w] at h; cases h
      · exact n w
  · rcases key ey with ⟨rfl, rfl⟩ | ⟨z, e2⟩
    · exact .inr ⟨_, ep', p2, o, rfl, f', upd_same, q.keeps (Same.keeps r'.ext)⟩
    · refine (r'.slot j y e2).imp id fun ⟨v, e3, q3⟩ => ⟨v, e3, ?_⟩
      cases y with
      | no => trivial
      | sh d => exact q3
      | lk => trivial
      | ow io2 y2 =>
        obtain ⟨p3, o3, ev, f3, h3, q3⟩ := q3
        subst ev
        have ne : p3 ≠ p2 := fun zz => by
          subst zz
          exact notp z e2 rfl e3
        exact ⟨p3, o3, rfl, f3, by rw [upd_ne ne]; exact h3, q3⟩
  · rcases key ey with ⟨rfl, rfl⟩ | ⟨z1, e3⟩
    · rcases key ez with ⟨rfl, rfl⟩ | ⟨z2, e4⟩
      · exact hjk rfl
      · rw [ep'] at e1; cases e1
        exact notp z2 e4 oz e2
    · rcases key ez with ⟨rfl, rfl⟩ | ⟨z2, e4⟩
      · rw [ep'] at e2; cases e2
        exact notp z1 e3 oy e1
      · exact r'.apart j k y z q hjk e3 e4 oy oz e1 e2
  · rcases key ey with ⟨rfl, rfl⟩ | ⟨z, e2⟩
    · obtain ⟨p3, e3, e4⟩ := r.pin j _ e hp
      rw [ep] at e4; cases e4
      exact ⟨_, e3, ep'⟩
    · obtain ⟨p3, e3, e4⟩ := r'.pin j y e2 hp
      exact ⟨p3, (if_neg z).symm.trans e3, e4⟩
  · by_cases z : j = i
    · subst z
      obtain ⟨y, ey, py⟩ := r.io j q eq
      rw [e] at ey; cases ey
      exact ⟨.ow io x, by rw [List.getElem?_set_self hl], py⟩
    · obtain ⟨y, e2, e3⟩ := r'.io j q ((if_neg z).trans eq)
      exact ⟨y, by rw [List.getElem?_set_ne (Ne.symm z)]; exact e2, e3⟩
  · rcases key ey with ⟨rfl, rfl⟩ | ⟨z, e2⟩
    · rw [ep'] at e1; cases e1
      exact r.onew j _ _ e rfl ep
    · rcases r'.onew j y q e2 hy e1 with h | h
      · have ne : q ≠ p2 := fun zz => by subst zz; exact notp z e2 hy e1
        rw [show (lockB B F (upd H p2 o1) i p2).H0 = upd H p2 o1 from rfl, upd_ne ne] at h
        exact r.fresh0 h
      · exact h.2
end
/-- back from a lock -/
def Res.back {α : Type} (r : Res α) (i : Nat) (x : Slot) : Res α := match r with
  | .ok a s => .ok a (s.set i x)
  | .ex e s => .ex e (s.set i x)
  | .bad => .bad
@[simp] theorem Res.back_ok {α : Type} {a : α} {s : DS} {i : Nat} {x : Slot} : (Res.ok a s).back i x = .ok a (s.set i x) := rfl
@[simp] theorem Res.back_ex {α : Type} {a : Exn} {s : DS} {i : Nat} {x : Slot} : (Res.ex a s : Res α).back i x = .ex a (s.set i x) := rfl
@[simp] theorem Res.back_bad {α : Type} {i : Nat} {x : Slot} : (Res.bad : Res α).back i x = .bad := rfl
/-- nothing is raised -/
def Res.noex {α : Type} (r : Res α) : Res α := match r with
  | .ex _ _ => .bad
  | r => r
@[simp] theorem Res.noex_ok {α : Type} {a : α} {s : DS} : (Res.ok a s).noex = .ok a s := rfl
@[simp] theorem Res.noex_ex {α : Type} {a : Exn} {s : DS} : (Res.ex a s : Res α).noex = .bad := rfl
@[simp] theorem Res.noex_bad {α : Type} : (Res.bad : Res α).noex = .bad := rfl
section
variable {K : PySem.W.Frag} {mg : Str → Option Value} {F : Hp}
theorem walk_list {a : Addr} {vs : List V} {ds : List D} (sq : F a = some (.lst vs)) (rp : Reps K mg F ds vs) : WalkD K mg (fun _ => True) (Itl K a) F ds where
  go := fun i F' H' s1 s2 _ hi => by
    obtain ⟨v, e, _⟩ := rp.get (List.getElem?_eq_getElem hi)
    exact ⟨vs, v, SqL.of (s2 _ _ (s1 _ _ sq)), e⟩
  yld := fun i F' H' x H'' s1 s2 _ hi y => by
    obtain ⟨rfl, y⟩ := y
    have e := y vs (SqL.of (s2 _ _ (s1 _ _ sq)))
    obtain ⟨d, e2, q⟩ := rp.getV e
    exact ⟨F', d, e2, .refl _ _, Rep.keeps (Same.keeps s1) d x q⟩
  stop := fun i F' H' s1 s2 _ hi0 => have hi := Nat.le_of_eq hi0.symm; ⟨vs, SqL.of (s2 _ _ (s1 _ _ sq)), by rw [← rp.len]; exact hi⟩
theorem walk_listO {a : Addr} {vs : List V} {ds : List D} (rp : Reps K mg F ds vs) : WalkD K mg (fun H => H a = some (.lst vs)) (Itl K a) F ds where
  go := fun i F' H' s1 s2 h hi => by
    obtain ⟨v, e, _⟩ := rp.get (List.getElem?_eq_getElem hi)
    exact ⟨vs, v, .of h, e⟩
  yld := fun i F' H' x H'' s1 s2 h hi y => by
    obtain ⟨rfl, y⟩ := y
    have e := y vs (.of h)
    obtain ⟨d, e2, q⟩ := rp.getV e
    exact ⟨F', d, e2, .refl _ _, Rep.keeps (Same.keeps s1) d x q⟩
  stop := fun i F' H' s1 s2 h hi0 => have hi := Nat.le_of_eq hi0.symm; ⟨vs, .of h, by rw [← rp.len]; exact hi⟩
theorem walk_tup {a : Addr} {vs : List V} {ds : List D} (sq : F a = some (.tup vs)) (rp : Reps K mg F ds vs) : WalkD K mg (fun _ => True) (Itt K a) F ds where
  go := fun i F' H' s1 s2 _ hi => by
    obtain ⟨v, e, _⟩ := rp.get (List.getElem?_eq_getElem hi)
    exact ⟨vs, v, SqT.of (s2 _ _ (s1 _ _ sq)), e⟩
  yld := fun i F' H' x H'' s1 s2 _ hi y => by
    obtain ⟨rfl, y⟩ := y
    have e := y vs (SqT.of (s2 _ _ (s1 _ _ sq)))
    obtain ⟨d, e2, q⟩ := rp.getV e
    exact ⟨F', d, e2, .refl _ _, Rep.keeps (Same.keeps s1) d x q⟩
  stop := fun i F' H' s1 s2 _ hi0 => have hi := Nat.le_of_eq hi0.symm; ⟨vs, SqT.of (s2 _ _ (s1 _ _ sq)), by rw [← rp.len]; exact hi⟩
theorem walk_range {lo : Int} {n : Nat} : WalkD K mg (fun _ => True) (Itr lo n) F ((List.range n).map fun i => D.int (lo + (i : Nat))) where
  go := fun i F' H' s1 s2 _ hi => by simpa [Itr] using hi
  yld := fun i F' H' x H'' s1 s2 _ hi y => by
    obtain ⟨rfl, rfl⟩ := y
    have hi' : i < n := by simpa using hi
    exact ⟨F', .int (lo + (i : Nat)), by simp [hi'], .refl _ _, Rep.int⟩
  stop := fun i F' H' s1 s2 _ hi0 => have hi := Nat.le_of_eq hi0.symm; by simpa [Itr] using hi
theorem walk_rangeC {lo c : Int} {n : Nat} : WalkD K mg (fun _ => True) (Itc lo c n) F ((List.range n).map fun i => D.int (lo + (i : Nat) * c)) where
  go := fun i F' H' s1 s2 _ hi => by simpa [Itc] using hi
  yld := fun i F' H' x H'' s1 s2 _ hi y => by
    obtain ⟨rfl, rfl⟩ := y
    have hi' : i < n := by simpa using hi
    exact ⟨F', .int (lo + (i : Nat) * c), by simp [hi'], .refl _ _, Rep.int⟩
  stop := fun i F' H' s1 s2 _ hi0 => have hi := Nat.le_of_eq hi0.symm; by simpa [Itc] using hi
/-- the signs of a text -/
def signs (x : Str) : List D := x.cps.toList.map fun c => .str ⟨#[c]⟩
theorem walk_str {x : Str} : WalkD K mg (fun _ => True) (Its x) F (signs x) where
  go := fun i F' H' s1 s2 _ hi => by
    have : i < x.cps.size := by simpa [signs] using hi
    exact this
  yld := fun i F' H' v H'' s1 s2 _ hi y => by
    obtain ⟨rfl, c, e, rfl⟩ := y
    refine ⟨F', .str ⟨#[c]⟩, ?_, .refl _ _, Rep.str⟩
    have e2 : x.cps.toList[i]? = some c := by simpa using e
    simp [signs, e2]
  stop := fun i F' H' s1 s2 _ hi0 => have hi := Nat.le_of_eq hi0.symm; by
    have : x.cps.size ≤ i := by simpa [signs] using hi
    exact this
def kD : Key → D
  | .inl i => .int i
  | .inr x => .str x
theorem rep_kD {k : Key} : Rep K mg F (kD k) (kV k) := by
  cases k with
  | inl i => exact Rep.int
  | inr x => exact Rep.str
theorem reps_kD : ∀ {ks : List Key}, Reps K mg F (ks.map kD) (ks.map kV)
  | [] => .nil
  | k :: ks => .cons rep_kD reps_kD
theorem RepT.get : ∀ {kvs : List (List Key × D)} {ws : List (List Key × V)} {i : Nat} {k : List Key} {v : V}, RepT K mg F kvs ws → ws[i]? = some (k, v) → ∃ d, kvs[i]? = some (k, d) ∧ Rep K mg F d v
  | [], ws, i, k, v, h, e => by unfold RepT at h; subst h; simp at e
  | p :: kvs, ws, i, k, v, h, e => by
    unfold RepT at h
    obtain ⟨u, r, e1, h, t⟩ := h
    subst e1
    cases i with
    | zero =>
      simp at e
      obtain ⟨e1, e2⟩ := e
      subst e1; subst e2
      exact ⟨p.2, rfl, h⟩
    | succ i => simpa using RepT.get t (by simpa using e)
theorem RepT.len : ∀ {kvs : List (List Key × D)} {ws : List (List Key × V)}, RepT K mg F kvs ws → kvs.length = ws.length
  | [], ws, h => by unfold RepT at h; subst h; rfl
  | p :: kvs, ws, h => by
    unfold RepT at h
    obtain ⟨u, r, e1, h, t⟩ := h
    subst e1
    simp [RepT.len t]
theorem RepK.get : ∀ {kvs : List (Key × D)} {ws : List (Key × V)} {i : Nat} {k : Key} {v : V}, RepK K mg F kvs ws → ws[i]? = some (k, v) → ∃ d, kvs[i]? = some (k, d) ∧ Rep K mg F d v
  | [], ws, i, k, v, h, e => by unfold RepK at h; subst h; simp at e
  | p :: kvs, ws, i, k, v, h, e => by
    unfold RepK at h
    obtain ⟨u, r, e1, h, t⟩ := h
    subst e1
    cases i with
    | zero =>
      simp at e
      obtain ⟨e1, e2⟩ := e
      subst e1; subst e2
      exact ⟨p.2, rfl, h⟩
    | succ i => simpa using RepK.get t (by simpa using e)
theorem RepK.len : ∀ {kvs : List (Key × D)} {ws : List (Key × V)}, RepK K mg F kvs ws → kvs.length = ws.length
  | [], ws, h => by unfold RepK at h; subst h; rfl
  | p :: kvs, ws, h => by
    unfold RepK at h
    obtain ⟨u, r, e1, h, t⟩ := h
    subst e1
    simp [RepK.len t]
theorem walk_T {a : Addr} {o : Obj} {ws : List (List Key × V)} {kvs : List (List Key × D)} {P : Hp → Prop} (hp : ∀ F' H', Same F F' → Same F' H' → P H' → H' a = some (.frz o (.dT ws))) (rp : RepT K mg F kvs ws) : WalkD K mg P (Itkt a o ws) F (kvs.map fun p => .tup (p.1.map kD)) where
  go := fun i F' H' s1 s2 h hi => ⟨hp F' H' s1 s2 h, by rw [← rp.len]; simpa using hi⟩
  yld := fun i F' H' x H'' s1 s2 h hi y => by
    obtain ⟨rfl, k, v, q, e, rfl, hq⟩ := y
    obtain ⟨d, e2, _⟩ := rp.get e
    refine ⟨upd F' q (.tup (k.map kV)), .tup (k.map kD), by simp [e2], .tup (.refl _ _) q _ hq, ?_⟩
    unfold Rep
    exact ⟨q, _, rfl, upd_same, reps_kD⟩
  stop := fun i F' H' s1 s2 h hi0 => have hi := Nat.le_of_eq hi0.symm; ⟨hp F' H' s1 s2 h, by rw [← rp.len]; simpa using hi⟩
theorem walk_K {a : Addr} {o : Obj} {ws : List (Key × V)} {kvs : List (Key × D)} {P : Hp → Prop} (hp : ∀ F' H', Same F F' → Same F' H' → P H' → H' a = some (.frz o (.dK ws))) (rp : RepK K mg F kvs ws) : WalkD K mg P (Itk a o ws) F (kvs.map fun p => kD p.1) where
  go := fun i F' H' s1 s2 h hi => ⟨hp F' H' s1 s2 h, by rw [← rp.len]; simpa using hi⟩
  yld := fun i F' H' x H'' s1 s2 h hi y => by
    obtain ⟨rfl, k, v, e, rfl⟩ := y
    obtain ⟨d, e2, _⟩ := rp.get e
    exact ⟨F', kD k, by simp [e2], .refl _ _, rep_kD⟩
  stop := fun i F' H' s1 s2 h hi0 => have hi := Nat.le_of_eq hi0.symm; ⟨hp F' H' s1 s2 h, by rw [← rp.len]; simpa using hi⟩
end
/-- walking what slot i holds; an owned thing is locked meanwhile -/
def walkS {α : Type} (i : Nat) (run : List D → DS → Res α) : DS → Res α := fun s => match s[i]? with
  | some (.sh (.lst l)) => run l s
  | some (.sh (.tup l)) => run l s
  | some (.sh (.str x)) => run (signs x) s
  | some (.sh (.dT kvs)) => (run (kvs.map fun p => .tup (p.1.map kD)) s).noex
  | some (.sh (.dK kvs)) => (run (kvs.map fun p => kD p.1) s).noex
  | some (.ow io (.l l)) => (run l (s.set i .lk)).back i (.ow io (.l l))
  | some (.ow io (.T kvs)) => ((run (kvs.map fun p => .tup (p.1.map kD)) (s.set i .lk)).back i (.ow io (.T kvs))).noex
  | some (.ow io (.K kvs)) => ((run (kvs.map fun p => kD p.1) (s.set i .lk)).back i (.ow io (.K kvs))).noex
  | _ => .bad
/-- what walking gives -/
def itsD : D → Option (List D)
  | .lst ds => some ds
  | .tup ds => some ds
  | .str x => some (signs x)
  | .dT kvs => some (kvs.map fun p => .tup (p.1.map kD))
  | .dK kvs => some (kvs.map fun p => kD p.1)
  | _ => none
end DL

set_option autoImplicit true
/-! D-layer, part f: walks over what a name holds; comprehensions. -/
namespace DL
open PySem PySem.Spec PyProof.Rows L2
set_option autoImplicit false
/-! ### hidden objects: in H alone, no slot's -/
def hideB (B : Base) (F H : Hp) (p : Addr) : Base := ⟨F, H, B.io, fun a => a ≠ p ∧ (B.H0 a = none ∨ B.ow a)⟩
structure Hid (B : Base) (F H : Hp) (σ : St) (s : DS) (p : Addr) (o : HO) : Prop where
  f : F p = none
  h : H p = some o
  h0 : B.H0 p = none ∨ B.ow p
  no : ∀ (j : Nat) y, s[j]? = some y → y.isOw = true → σ[j]? ≠ some (some (.ref p))
  nt : ∀ xs, o ≠ .tup xs
section
variable {K : PySem.W.Frag} {mg : Str → Option Value} {B : Base} {F H : Hp} {σ : St} {s : DS}
theorem Rel.hide (r : Rel K mg B F H σ s) {p : Addr} {o : HO} (h : Hid B F H σ s p o) : Rel K mg (hideB B F H p) F H σ s :=
  ⟨r.sub, Same.refl F, fun a o h => .inr (.inl h), fun a o h _ => h, r.len, r.slot, r.apart, r.pin, r.io, fun j y q ey hy e1 => .inr ⟨fun z => by subst z; exact h.no j y ey hy e1, r.onew j y q ey hy e1⟩⟩
theorem Rel.unhide (r : Rel K mg B F H σ s) {p : Addr} {o : HO} (h : Hid B F H σ s p o) {F' H' : Hp} {σ' : St} {s' : DS} (r' : Rel K mg (hideB B F H p) F' H' σ' s') : Rel K mg B F' H' σ' s' ∧ Hid B F' H' σ' s' p o := by
  have now : ¬ (hideB B F H p).ow p := fun z => z.1 rfl
  have hp' : H' p = some o := r'.frame p o h.h now
  refine ⟨⟨r'.sub, r.ext.trans r'.ext, fun a u e => ?_, fun a u e n => ?_, r'.len, r'.slot, r'.apart, r'.pin, r'.io, fun j y q ey hy e1 => ?_⟩, ?_, hp', h.h0, fun j y ey hy e1 => ?_, h.nt⟩
  · rcases r'.new a u e with h | h | h | h
    · exact .inl h
    · exact r.new a u h
    · exact .inr (.inr (r.fresh0 h))
    · exact .inr (.inr h.2)
  · refine r'.frame a u (r.frame a u e n) fun z => ?_
    rcases z.2 with z | z
    · rw [z] at e; cases e
    · exact n z
  · rcases r'.onew j y q ey hy e1 with h | h
    · exact r.fresh0 h
    · exact h.2
  · cases z : F' p with
    | none => rfl
    | some u =>
      rcases r'.new p u z with ⟨xs, rfl⟩ | q | q | q
      · rw [r'.sub _ _ z] at hp'
        cases hp'
        exact (h.nt xs rfl).elim
      · rw [show (hideB B F H p).F0 = F from rfl, h.f] at q; cases q
      · rw [show (hideB B F H p).H0 = H from rfl, h.h] at q; cases q
      · exact (now q).elim
  · rcases r'.onew j y p ey hy e1 with q | q
    · rw [show (hideB B F H p).H0 = H from rfl, h.h] at q; cases q
    · exact now q
/-- a hidden object is changed -/
theorem Rel.writeH (r : Rel K mg B F H σ s) {p : Addr} {o o' : HO} (h : Hid B F H σ s p o) (nt : ∀ xs, o' ≠ .tup xs) : Rel K mg B F (upd H p o') σ s ∧ Hid B F (upd H p o') σ s p o' := by
  refine ⟨⟨fun a u e => ?_, r.ext, r.new, fun a u e n => ?_, r.len, fun i y e => ?_, r.apart, r.pin, r.io, r.onew⟩, h.f, upd_same, h.h0, h.no, nt⟩
  · have ne : a ≠ p := fun z => by rw [z, h.f] at e; cases e
    rw [upd_ne ne]; exact r.sub a u e
  · have ne : a ≠ p := fun z => by
      subst z
      rcases h.h0 with q | q
      · rw [q] at e; cases e
      · exact n q
    rw [upd_ne ne]; exact r.frame a u e n
  · refine (r.slot i y e).imp id fun ⟨v, e2, q⟩ => ⟨v, e2, ?_⟩
    cases y with
    | no => trivial
    | sh d => exact q
    | lk => trivial
    | ow io x =>
      obtain ⟨p', o2, ev, f, h', q⟩ := q
      subst ev
      have ne : p' ≠ p := fun z => h.no i _ e rfl (by rw [e2, z])
      exact ⟨p', o2, rfl, f, by rw [upd_ne ne]; exact h', q⟩
theorem Rel.newH (r : Rel K mg B F H σ s) {p : Addr} {o : HO} (hp : H p = none) (nt : ∀ xs, o ≠ .tup xs) : Rel K mg B F (upd H p o) σ s ∧ Hid B F (upd H p o) σ s p o := by
  refine ⟨r.allocH hp, Same.none r.sub hp, upd_same, r.fresh0 hp, fun j y ey hy e1 => ?_, nt⟩
  rcases r.slot j y ey with z | ⟨v, e2, q⟩
  · subst z; cases hy
  · cases y with
    | ow io x =>
      obtain ⟨p', o2, ev, f, h', q⟩ := q
      subst ev
      rw [e1] at e2; cases e2
      rw [hp] at h'; cases h'
    | _ => cases hy
/-! ### a shared dict is locked -/
def lockSB (B : Base) (F H : Hp) (a : Addr) (o : HO) : Base := ⟨upd F a o, upd H a o, B.io, fun q => q ≠ a ∧ (B.H0 q = none ∨ B.ow q)⟩
theorem keeps_lockT {F : Hp} {a : Addr} {od : Obj} {ws : List (List Key × V)} (h : F a = some (.dT ws)) : Keeps F (upd F a (.frz od (.dT ws))) := by
  have key : ∀ b u, Rd F b u → (u ≠ .dT ws ∨ b ≠ a) → b ≠ a ∨ False := fun b u r z => by
    by_cases e : b = a
    · subst e
      rcases r with r | ⟨o, r⟩
      · rw [h] at r; cases r
        rcases z with z | z
        · exact (z rfl).elim
        · exact (z rfl).elim
      · rw [h] at r; cases r
    · exact .inl e
  have go : ∀ b u, Rd F b u → b ≠ a → Rd (upd F a (.frz od (.dT ws))) b u := fun b u r ne => by
    unfold Rd at r ⊢
    rw [upd_ne ne]; exact r
  refine ⟨fun b xs r => ?_, fun b xs r => ?_, fun b xs r => ?_, fun b xs r => ?_, fun b xs r => ?_, fun b C dx fs r => ?_⟩
  · have ne : b ≠ a := fun z => by subst z; rw [h] at r; cases r
    rw [upd_ne ne]; exact r
  · have ne : b ≠ a := fun z => by subst z; rw [h] at r; cases r
    rw [upd_ne ne]; exact r
  · exact go b _ r ((key b _ r (.inl fun z => by cases z)).elim id False.elim)
  · by_cases e : b = a
    · subst e
      rcases r with r | ⟨o, r⟩
      · rw [h] at r; cases r
        exact .inr ⟨od, upd_same⟩
      · rw [h] at r; cases r
    · exact go b _ r e
  · exact go b _ r ((key b _ r (.inl fun z => by cases z)).elim id False.elim)
  · have ne : b ≠ a := fun z => by subst z; rw [h] at r; cases r
    rw [upd_ne ne]; exact r
theorem keeps_unlockT {F : Hp} {a : Addr} {od : Obj} {ws : List (List Key × V)} (h : F a = some (.frz od (.dT ws))) : Keeps F (upd F a (.dT ws)) := by
  have go : ∀ b u, Rd F b u → b ≠ a → Rd (upd F a (.dT ws)) b u := fun b u r ne => by
    unfold Rd at r ⊢
    rw [upd_ne ne]; exact r
  have at_a : ∀ u, Rd F a u → u = .frz od (.dT ws) ∨ u = .dT ws := fun u r => by
    rcases r with r | ⟨o, r⟩
    · rw [h] at r; cases r; exact .inl rfl
    · rw [h] at r; cases r; exact .inr rfl
  refine ⟨fun b xs r => ?_, fun b xs r => ?_, fun b xs r => ?_, fun b xs r => ?_, fun b xs r => ?_, fun b C dx fs r => ?_⟩
  · have ne : b ≠ a := fun z => by subst z; rw [h] at r; cases r
    rw [upd_ne ne]; exact r
  · have ne : b ≠ a := fun z => by subst z; rw [h] at r; cases r
    rw [upd_ne ne]; exact r
  · refine go b _ r fun z => ?_
    subst z; rcases at_a _ r with z | z <;> cases z
  · by_cases e : b = a
    · subst e
      rcases at_a _ r with z | z
      · cases z
      · cases z; exact .inl upd_same
    · exact go b _ r e
  · refine go b _ r fun z => ?_
    subst z; rcases at_a _ r with z | z <;> cases z
  · have ne : b ≠ a := fun z => by subst z; rw [h] at r; cases r
    rw [upd_ne ne]; exact r
theorem keeps_lockK {F : Hp} {a : Addr} {od : Obj} {ws : List (Key × V)} (h : F a = some (.dK ws)) : Keeps F (upd F a (.frz od (.dK ws))) := by
  have go : ∀ b u, Rd F b u → b ≠ a → Rd (upd F a (.frz od (.dK ws))) b u := fun b u r ne => by
    unfold Rd at r ⊢
    rw [upd_ne ne]; exact r
  have at_a : ∀ u, Rd F a u → u = .dK ws := fun u r => by
    rcases r with r | ⟨o, r⟩
    · rw [h] at r; cases r; rfl
    · rw [h] at r; cases r
  refine ⟨fun b xs r => ?_, fun b xs r => ?_, fun b xs r => ?_, fun b xs r => ?_, fun b xs r => ?_, fun b C dx fs r => ?_⟩
  · have ne : b ≠ a := fun z => by subst z; rw [h] at r; cases r
    rw [upd_ne ne]; exact r
  · have ne : b ≠ a := fun z => by subst z; rw [h] at r; cases r
    rw [upd_ne ne]; exact r
  · refine go b _ r fun z => ?_
    subst z; cases at_a _ r
  · refine go b _ r fun z => ?_
    subst z; cases at_a _ r
  · by_cases e : b = a
    · subst e
      cases at_a _ r
      exact .inr ⟨od, upd_same⟩
    · exact go b _ r e
  · have ne : b ≠ a := fun z => by subst z; rw [h] at r; cases r
    rw [upd_ne ne]; exact r
theorem keeps_unlockK {F : Hp} {a : Addr} {od : Obj} {ws : List (Key × V)} (h : F a = some (.frz od (.dK ws))) : Keeps F (upd F a (.dK ws)) := by
  have go : ∀ b u, Rd F b u → b ≠ a → Rd (upd F a (.dK ws)) b u := fun b u r ne => by
    unfold Rd at r ⊢
    rw [upd_ne ne]; exact r
  have at_a : ∀ u, Rd F a u → u = .frz od (.dK ws) ∨ u = .dK ws := fun u r => by
    rcases r with r | ⟨o, r⟩
    · rw [h] at r; cases r; exact .inl rfl
    · rw [h] at r; cases r; exact .inr rfl
  refine ⟨fun b xs r => ?_, fun b xs r => ?_, fun b xs r => ?_, fun b xs r => ?_, fun b xs r => ?_, fun b C dx fs r => ?_⟩
  · have ne : b ≠ a := fun z => by subst z; rw [h] at r; cases r
    rw [upd_ne ne]; exact r
  · have ne : b ≠ a := fun z => by subst z; rw [h] at r; cases r
    rw [upd_ne ne]; exact r
  · refine go b _ r fun z => ?_
    subst z; rcases at_a _ r with z | z <;> cases z
  · refine go b _ r fun z => ?_
    subst z; rcases at_a _ r with z | z <;> cases z
  · by_cases e : b = a
    · subst e
      rcases at_a _ r with z | z
      · cases z
      · cases z; exact .inl upd_same
    · exact go b _ r e
  · have ne : b ≠ a := fun z => by subst z; rw [h] at r; cases r
    rw [upd_ne ne]; exact r
theorem SlotOk.keeps2 {F F' H H' : Hp} (k : Keeps F F') {v : V} {y : Slot} (ho : ∀ p o io x, y = .ow io x → v = .ref p → F p = none → H p = some o → OwnObj K mg F x o → F' p = none ∧ H' p = some o) (q : SlotOk K mg F H v y) : SlotOk K mg F' H' v y := by
  cases y with
  | no => trivial
  | sh d => exact Rep.keeps k d v q
  | lk => trivial
  | ow io x =>
    obtain ⟨p, o, ev, f, h, q⟩ := q
    obtain ⟨f', h'⟩ := ho p o io x rfl ev f h q
    exact ⟨p, o, ev, f', h', q.keeps k⟩
theorem Rel.lockS (r : Rel K mg B F H σ s) {a : Addr} {u o : HO} (ha : F a = some u) (k : Keeps F (upd F a o)) : Rel K mg (lockSB B F H a o) (upd F a o) (upd H a o) σ s := by
  have hH : H a = some u := r.sub a u ha
  refine ⟨fun b w e => ?_, Same.refl _, fun b w h => .inr (.inl h), fun b w h _ => h, r.len, fun j y ey => ?_, r.apart, r.pin, r.io, fun j y q ey hy e1 => ?_⟩
  · by_cases z : b = a
    · subst z; rw [upd_same] at e ⊢; exact e
    · rw [upd_ne z] at e ⊢; exact r.sub b w e
  · refine (r.slot j y ey).imp id fun ⟨v, e2, q⟩ => ⟨v, e2, q.keeps2 k fun p o' io x _ _ f h _ => ?_⟩
    have ne : p ≠ a := fun z => by subst z; rw [ha] at f; cases f
    rw [upd_ne ne, upd_ne ne]; exact ⟨f, h⟩
  · have ne : q ≠ a := fun z => by
      subst z
      rcases r.slot j y ey with z | ⟨v, e2, q'⟩
      · subst z; cases hy
      · cases y with
        | ow io x =>
          obtain ⟨p', o2, ev, f, h', q'⟩ := q'
          subst ev
          rw [e1] at e2; cases e2
          rw [ha] at f; cases f
        | _ => cases hy
    exact .inr ⟨ne, r.onew j y q ey hy e1⟩
theorem Rel.unlockS (r : Rel K mg B F H σ s) {a : Addr} {u o : HO} (ha : F a = some u) {F' H' : Hp} {σ' : St} {s' : DS} (k : F' a = some o → Keeps F' (upd F' a u)) (r' : Rel K mg (lockSB B F H a o) F' H' σ' s') :
    H' a = some o ∧ Same F (upd F' a u) ∧ Rel K mg B (upd F' a u) (upd H' a u) σ' s' := by
  have hF : F' a = some o := r'.ext a o upd_same
  have hH : H' a = some o := r'.sub a o hF
  have sm : Same F (upd F' a u) := fun b w e => by
    by_cases z : b = a
    · subst z; rw [ha] at e; cases e; exact upd_same
    · rw [upd_ne z]; exact r'.ext b w (by rw [show (lockSB B F H a o).F0 = upd F a o from rfl, upd_ne z]; exact e)
  refine ⟨hH, sm, ⟨fun b w e => ?_, r.ext.trans sm, fun b w e => ?_, fun b w e n => ?_, r'.len, fun j y ey => ?_, r'.apart, r'.pin, r'.io, fun j y q ey hy e1 => ?_⟩⟩
  · by_cases z : b = a
    · subst z; rw [upd_same] at e ⊢; exact e
    · rw [upd_ne z] at e ⊢; exact r'.sub b w e
  · by_cases z : b = a
    · subst z
      rw [upd_same] at e; cases e
      exact r.new b _ ha
    · rw [upd_ne z] at e
      rcases r'.new b w e with h | h | h | h
      · exact .inl h
      · rw [show (lockSB B F H a o).F0 = upd F a o from rfl, upd_ne z] at h
        exact r.new b w h
      · rw [show (lockSB B F H a o).H0 = upd H a o from rfl, upd_ne z] at h
        exact .inr (.inr (r.fresh0 h))
      · exact .inr (.inr h.2)
  · have h := r.frame b w e n
    by_cases z : b = a
    · subst z
      rw [r.sub _ _ ha] at h; cases h
      exact upd_same
    · rw [upd_ne z]
      refine r'.frame b w (by rw [show (lockSB B F H a o).H0 = upd H a o from rfl, upd_ne z]; exact h) fun q => ?_
      rcases q.2 with q | q
      · rw [q] at e; cases e
      · exact n q
  · refine (r'.slot j y ey).imp id fun ⟨v, e2, q⟩ => ⟨v, e2, q.keeps2 (k hF) fun p o' io x _ _ f h _ => ?_⟩
    have ne : p ≠ a := fun z => by subst z; rw [hF] at f; cases f
    rw [upd_ne ne, upd_ne ne]; exact ⟨f, h⟩
  · rcases r'.onew j y q ey hy e1 with h | h
    · by_cases z : q = a
      · subst z
        rw [show (lockSB B F H q o).H0 = upd H q o from rfl, upd_same] at h; cases h
      · rw [show (lockSB B F H a o).H0 = upd H a o from rfl, upd_ne z] at h
        exact r.fresh0 h
    · exact h.2
end
/-! ### alternatives -/
theorem PS.or {X : Cx} {st : Stmt} {t t' : TS} (h : PS X st t) (h' : PS X st t') : PS X st (fun D σ H => t D σ H ∨ t' D σ H) := ⟨fun pins s σ H D I q => q.elim (h.run pins s σ H D I) (h'.run pins s σ H D I)⟩
theorem PE.or {X : Cx} {e : Expr} {t t' : TE} (h : PE X e t) (h' : PE X e t') : PE X e (fun σ H Q => t σ H Q ∨ t' σ H Q) := ⟨fun pins s σ H Q I q => q.elim (h.run pins s σ H Q I) (h'.run pins s σ H Q I)⟩
theorem PI.or {X : Cx} {tg e : Expr} {t t' : TI} (h : PI X tg e t) (h' : PI X tg e t') : PI X tg e (fun σ H Q => t σ H Q ∨ t' σ H Q) := ⟨fun pins s σ H Q I q => q.elim (h.run pins s σ H Q I) (h'.run pins s σ H Q I)⟩
/-! ### for x in name -/
section
variable {X : Cx} {W : WX} {pos : Pos} {e : Expr}
theorem FlPost.conv {K : PySem.W.Frag} {mg : Str → Option Value} {B B' : Base} {F F' : Hp} {E E' : Ends} {s s' : DS} {fl : Fl} (h : FlPost K mg B F E s fl)
    (c : ∀ σ' F2 H2, Rel K mg B' F2 H2 σ' s' → Same F' F2 → ∃ F3 H3, Rel K mg B F3 H3 σ' s ∧ Same F F3 ∧ Keeps F2 F3 ∧ (E.nx σ' H3 → E'.nx σ' H2) ∧ (∀ v, E.rt v H3 → E'.rt v H2) ∧ (E.bk σ' H3 → E'.bk σ' H2) ∧ (E.ct σ' H3 → E'.ct σ' H2)) : FlPost K mg B' F' E' s' fl := by
  cases fl with
  | nx => exact fun σ' F2 H2 r sm => let ⟨F3, H3, r3, s3, _, i, _, _, _⟩ := c σ' F2 H2 r sm; i (h σ' F3 H3 r3 s3)
  | rt d => exact fun v σ' F2 H2 r sm q => let ⟨F3, H3, r3, s3, k, _, i, _, _⟩ := c σ' F2 H2 r sm; i v (h v σ' F3 H3 r3 s3 (Rep.keeps k d v q))
  | bk => exact fun σ' F2 H2 r sm => let ⟨F3, H3, r3, s3, _, _, _, i, _⟩ := c σ' F2 H2 r sm; i (h σ' F3 H3 r3 s3)
  | ct => exact fun σ' F2 H2 r sm => let ⟨F3, H3, r3, s3, _, _, _, _, i⟩ := c σ' F2 H2 r sm; i (h σ' F3 H3 r3 s3)
theorem post_back {α : Type} {B B' : Base} {F F' : Hp} {r : Res α} {i : Nat} {y : Slot} {g g' : α → DS → Prop} {b b' : Exn → DS → Prop} (h : Post B F (r.back i y) g b) (hg : ∀ a s, g a (s.set i y) → g' a s) (hb : ∀ x s, b x (s.set i y) → b' x s) : Post B' F' r g' b' := by
  cases r with
  | ok a s => exact hg a s h
  | ex x s => exact hb x s h
  | bad => exact h
theorem post_noex {α : Type} {B B' : Base} {F F' : Hp} {r : Res α} {g g' : α → DS → Prop} {b b' : Exn → DS → Prop} (h : Post B F r.noex g b) (hg : ∀ a s, g a s → g' a s) : Post B' F' r g' b' := by
  cases r with
  | ok a s => exact hg a s h
  | ex x s => exact h.elim
  | bad => exact h
theorem Rep.lst_ {K : PySem.W.Frag} {mg : Str → Option Value} {F : Hp} {l : List D} {v : V} (h : Rep K mg F (.lst l) v) : ∃ a vs, v = .ref a ∧ F a = some (.lst vs) ∧ Reps K mg F l vs := by unfold Rep at h; exact h
theorem Rep.tup_ {K : PySem.W.Frag} {mg : Str → Option Value} {F : Hp} {l : List D} {v : V} (h : Rep K mg F (.tup l) v) : ∃ a vs, v = .ref a ∧ F a = some (.tup vs) ∧ Reps K mg F l vs := by unfold Rep at h; exact h
theorem Rep.dT_ {K : PySem.W.Frag} {mg : Str → Option Value} {F : Hp} {l : List (List Key × D)} {v : V} (h : Rep K mg F (.dT l) v) : ∃ a vs, v = .ref a ∧ Rd F a (.dT vs) ∧ RepT K mg F l vs := by unfold Rep at h; exact h
theorem Rep.dK_ {K : PySem.W.Frag} {mg : Str → Option Value} {F : Hp} {l : List (Key × D)} {v : V} (h : Rep K mg F (.dK l) v) : ∃ a vs, v = .ref a ∧ Rd F a (.dK vs) ∧ RepK K mg F l vs := by unfold Rep at h; exact h
theorem Rep.obj_ {K : PySem.W.Frag} {mg : Str → Option Value} {F : Hp} {c : Str} {fs : List (Str × D)} {v : V} (h : Rep K mg F (.obj c fs) v) : ∃ a C dx ws, v = .ref a ∧ mg c = some (.ref C) ∧ F a = some (.ins C dx ws) ∧ RepF K mg F fs ws := by unfold Rep at h; exact h
/-- for tg in the name of slot i -/
def sForS (i : Nat) (g : D → DS → Option DS) (body : DS → Res Fl) : DS → Res Fl := walkS i (forM g body)
theorem ds_forS {k : Nat} (i : Nat) {x : Str} {tg : Expr} {body : List Stmt} {gi : List Nat} {g : D → DS → Option DS} {b : DS → Res Fl} {p1 : Pos} (C : Ctx k X W) (hg : DG X tg gi g) (hb : DSs X W body b)
    (hN : X.N[i]? = some x := by rfl) (hv : Vis X.env.scope x := by first | exact Or.inl rfl | exact Or.inr (Or.inl rfl) | exact Or.inr (Or.inr rfl)) (hd : (x == ("__debug__" : Str)) = false := by decide)
    (hcd : (x == ("__classdict__" : Str)) = false := by decide) (hs : ∀ v, foldedSetIterable (.Name x p1) X.env v = pure v := by intro _; rfl) : DSt X W (.For tg (.Name x p1) body [] pos) (sForS i g b) := by
  have pv : PE X (.Name x p1) (tVar i) := pe_var hN hv hd hcd
  have f1 := ps_for (pos := pos) C.po C.calm (pi_list pv) hg hb hs
  have f2 := ps_for (pos := pos) C.po C.calm (pi_tup pv) hg hb hs
  have f3 := ps_for (pos := pos) C.po C.calm (pi_str pv) hg hb hs
  have f4 := ps_for (pos := pos) C.po C.calm (pi_keys pv) hg hb hs
  refine PS.imp (PS.or f1 (PS.or f2 (PS.or f3 (PS.or f4 (ps_lock f4))))) fun E σ H ⟨B, F, s, r, p⟩ => ?_
  unfold sForS walkS at p
  split at p
  · rename_i l e1
    obtain ⟨v, ev, q⟩ := r.shared e1
    obtain ⟨a, vs, rfl, sq, rp⟩ := q.lst_
    exact .inl ⟨_, ev, a, rfl, ⟨vs, .of (r.sub _ _ sq)⟩, for_read (fun _ _ _ _ _ => trivial) r (walk_list sq rp) p⟩
  · rename_i l e1
    obtain ⟨v, ev, q⟩ := r.shared e1
    obtain ⟨a, vs, rfl, sq, rp⟩ := q.tup_
    exact .inr (.inl ⟨_, ev, a, rfl, ⟨vs, .of (r.sub _ _ sq)⟩, for_read (fun _ _ _ _ _ => trivial) r (walk_tup sq rp) p⟩)
  · rename_i l e1
    obtain ⟨v, ev, q⟩ := r.shared e1
    cases Rep.str_ q
    exact .inr (.inr (.inl ⟨_, ev, l, rfl, for_read (fun _ _ _ _ _ => trivial) r walk_str p⟩))
  · rename_i l e1
    obtain ⟨v, ev, q⟩ := r.shared e1
    obtain ⟨a, ws, rfl, rd, rp⟩ := q.dT_
    rcases rd with rd | ⟨o, rd⟩
    · refine .inr (.inr (.inr (.inr ⟨a, _, r.sub _ _ rd, trivial, fun od => ?_⟩)))
      have r1 := r.lockS rd (keeps_lockT (od := od) rd)
      refine ⟨_, ev, a, od, rfl, .inr ⟨ws, upd_same, ?_⟩⟩
      refine for_read (B := lockSB B F H a (.frz od (.dT ws))) (fun _ _ _ _ _ => trivial) r1 (walk_T (P := fun _ => True) (fun F' H' s1 s2 _ => s2 _ _ (s1 _ _ upd_same)) (RepT.keeps (keeps_lockT rd) _ _ rp)) (post_noex p fun fl s' h => h.conv fun σ' F2 H2 r2 _ => ?_)
      obtain ⟨hH, sm, r3⟩ := r.unlockS rd (fun hF => keeps_unlockT hF) r2
      exact ⟨_, _, r3, sm, keeps_unlockT (r2.ext a _ upd_same), fun z => ⟨hH, z⟩, fun v z => ⟨hH, z⟩, fun z => ⟨hH, z⟩, fun z => ⟨hH, z⟩⟩
    · refine .inr (.inr (.inr (.inl ⟨_, ev, a, o, rfl, .inr ⟨ws, r.sub _ _ rd, ?_⟩⟩)))
      exact for_read (fun _ _ _ _ _ => trivial) r (walk_T (P := fun _ => True) (fun F' H' s1 s2 _ => s2 _ _ (s1 _ _ rd)) rp) (post_noex p fun fl s' h => h)
  · rename_i l e1
    obtain ⟨v, ev, q⟩ := r.shared e1
    obtain ⟨a, ws, rfl, rd, rp⟩ := q.dK_
    rcases rd with rd | ⟨o, rd⟩
    · refine .inr (.inr (.inr (.inr ⟨a, _, r.sub _ _ rd, trivial, fun od => ?_⟩)))
      have r1 := r.lockS rd (keeps_lockK (od := od) rd)
      refine ⟨_, ev, a, od, rfl, .inl ⟨ws, upd_same, ?_⟩⟩
      refine for_read (B := lockSB B F H a (.frz od (.dK ws))) (fun _ _ _ _ _ => trivial) r1 (walk_K (P := fun _ => True) (fun F' H' s1 s2 _ => s2 _ _ (s1 _ _ upd_same)) (RepK.keeps (keeps_lockK rd) _ _ rp)) (post_noex p fun fl s' h => h.conv fun σ' F2 H2 r2 _ => ?_)
      obtain ⟨hH, sm, r3⟩ := r.unlockS rd (fun hF => keeps_unlockK hF) r2
      exact ⟨_, _, r3, sm, keeps_unlockK (r2.ext a _ upd_same), fun z => ⟨hH, z⟩, fun v z => ⟨hH, z⟩, fun z => ⟨hH, z⟩, fun z => ⟨hH, z⟩⟩
    · refine .inr (.inr (.inr (.inl ⟨_, ev, a, o, rfl, .inl ⟨ws, r.sub _ _ rd, ?_⟩⟩)))
      exact for_read (fun _ _ _ _ _ => trivial) r (walk_K (P := fun _ => True) (fun F' H' s1 s2 _ => s2 _ _ (s1 _ _ rd)) rp) (post_noex p fun fl s' h => h)
  · rename_i io l e1
    obtain ⟨a, o, ev, f, hp, q⟩ := r.owned e1
    obtain ⟨vs, rfl, rp⟩ := q
    have r1 := r.lock (.lst vs) e1 ev
    rw [upd_self hp] at r1
    refine .inl ⟨_, ev, a, rfl, ⟨vs, .of hp⟩, for_read (P := fun H => H a = some (.lst vs)) (fun F2 H2 σ2 s2 r2 => ?_) r1 (walk_listO rp) (post_back p (fun fl s' h => h.conv fun σ' F2 H2 r2 sm => ?_) fun y s' h σ' cls dd F2 H2 r2 sm x2 => ?_)⟩
    · exact r2.frame a _ hp fun z => z.1 rfl
    · obtain ⟨h1, h2⟩ := r.unlock (o1 := .lst vs) e1 ev hp (fun _ z => by cases z) (by rw [upd_self hp]; exact r2)
      rw [upd_self h1] at h2
      exact ⟨F2, H2, h2, sm, Same.keeps (Same.refl _), id, fun _ => id, id, id⟩
    · obtain ⟨h1, h2⟩ := r.unlock (o1 := .lst vs) e1 ev hp (fun _ z => by cases z) (by rw [upd_self hp]; exact r2)
      rw [upd_self h1] at h2
      exact h σ' cls dd F2 H2 h2 sm x2
  · rename_i io l e1
    obtain ⟨a, o, ev, f, hp, q⟩ := r.owned e1
    obtain ⟨ws, rfl, rp⟩ := q
    refine .inr (.inr (.inr (.inr ⟨a, _, hp, trivial, fun od => ?_⟩)))
    have r1 := r.lock (.frz od (.dT ws)) e1 ev
    refine ⟨_, ev, a, od, rfl, .inr ⟨ws, upd_same, ?_⟩⟩
    refine for_read (P := fun H => H a = some (.frz od (.dT ws))) (fun F2 H2 σ2 s2 r2 => ?_) r1 (walk_T (fun F' H' s1 s2 h => h) rp) (post_back (post_noex (B' := B) (F' := F) (b' := fun _ _ => False) p fun _ _ h => h) (fun fl s' h => h.conv fun σ' F2 H2 r2 sm => ?_) fun _ _ h => h.elim)
    · exact r2.frame a _ upd_same fun z => z.1 rfl
    · obtain ⟨h1, h2⟩ := r.unlock (o1 := .frz od (.dT ws)) e1 ev hp (fun _ z => by cases z) r2
      exact ⟨F2, _, h2, sm, Same.keeps (Same.refl _), fun z => ⟨h1, z⟩, fun _ z => ⟨h1, z⟩, fun z => ⟨h1, z⟩, fun z => ⟨h1, z⟩⟩
  · rename_i io l e1
    obtain ⟨a, o, ev, f, hp, q⟩ := r.owned e1
    obtain ⟨ws, rfl, rp⟩ := q
    refine .inr (.inr (.inr (.inr ⟨a, _, hp, trivial, fun od => ?_⟩)))
    have r1 := r.lock (.frz od (.dK ws)) e1 ev
    refine ⟨_, ev, a, od, rfl, .inl ⟨ws, upd_same, ?_⟩⟩
    refine for_read (P := fun H => H a = some (.frz od (.dK ws))) (fun F2 H2 σ2 s2 r2 => ?_) r1 (walk_K (fun F' H' s1 s2 h => h) rp) (post_back (post_noex (B' := B) (F' := F) (b' := fun _ _ => False) p fun _ _ h => h) (fun fl s' h => h.conv fun σ' F2 H2 r2 sm => ?_) fun _ _ h => h.elim)
    · exact r2.frame a _ upd_same fun z => z.1 rfl
    · obtain ⟨h1, h2⟩ := r.unlock (o1 := .frz od (.dK ws)) e1 ev hp (fun _ z => by cases z) r2
      exact ⟨F2, _, h2, sm, Same.keeps (Same.refl _), fun z => ⟨h1, z⟩, fun _ z => ⟨h1, z⟩, fun z => ⟨h1, z⟩, fun z => ⟨h1, z⟩⟩
  · exact p.elim
end
end DL

set_option autoImplicit true
/-! D-layer, part g: comprehensions. -/
namespace DL
open PySem PySem.Spec PyProof.Rows L2
set_option autoImplicit false
def wipeD (s : DS) : List Nat → DS
  | [] => s
  | v :: vs => (wipeD s vs).set v .no
/-- the slots vs as they were in s1 -/
def restD (s1 s2 : DS) : List Nat → DS
  | [] => s2
  | v :: vs => (restD s1 s2 vs).set v (s1.getD v .no)
def okOwn (s : DS) (vs : List Nat) : Bool := vs.all fun v => match s[v]? with
  | some .no => true
  | some (.sh _) => true
  | _ => false
def lcM (vs : List Nat) (g : D → DS → Option DS) (t : DS → Res Bool) (e : DS → Res D) : List D → DS → Res (List D)
  | [], s => .ok [] s
  | d :: ds, s => match g d (wipeD s vs) with
    | none => .bad
    | some s1 => ((t s1).noex).bind fun b s2 => match b with
      | true => ((e s2).noex).bind fun y s3 => (lcM vs g t e ds s3).bind fun ys s4 => .ok (y :: ys) s4
      | false => lcM vs g t e ds s2
def lcRun (vs : List Nat) (g : D → DS → Option DS) (t : DS → Res Bool) (e : DS → Res D) : List D → DS → Res Own := fun items s =>
  if okOwn s vs = true ∧ items.length ≤ sizeLine then (lcM vs g t e items s).bind fun ys s2 => .ok (.l ys) (restD s s2 vs) else .bad
def nLc (f : DS → Res (List D)) (vs : List Nat) (g : D → DS → Option DS) (t : DS → Res Bool) (e : DS → Res D) : DS → Res Own := fun s => (f s).bind fun items s => lcRun vs g t e items s
def tYesD : DS → Res Bool := fun s => .ok true s
section
variable {K : PySem.W.Frag} {mg : Str → Option Value} {B : Base} {F H : Hp} {σ : St} {s : DS}
theorem set_key {s : DS} {i j : Nat} {x y : Slot} (e : (s.set i x)[j]? = some y) : (j = i ∧ y = x ∧ i < s.length) ∨ (j ≠ i ∧ s[j]? = some y) := by
  by_cases z : j = i
  · subst z
    have hl : j < s.length := by
      have := (List.getElem?_eq_some_iff.mp e).1
      simpa using this
    rw [List.getElem?_set_self hl] at e
    exact .inl ⟨rfl, (Option.some.inj e).symm, hl⟩
  · rw [List.getElem?_set_ne (Ne.symm z)] at e
    exact .inr ⟨z, e⟩
theorem Rel.forget (r : Rel K mg B F H σ s) {i : Nat} (hi : B.io i = none) : Rel K mg B F H (σ.set i none) (s.set i .no) := by
  have sv : ∀ {j : Nat} {v : V}, j ≠ i → (σ.set i none)[j]? = σ[j]? := fun {j v} z => by rw [List.getElem?_set_ne (Ne.symm z)]
  refine ⟨r.sub, r.ext, r.new, r.frame, by simp [r.len], fun j y ey => ?_, fun j k y z q hjk ey ez oy oz e1 e2 => ?_, fun j y ey hp => ?_, fun j q eq => ?_, fun j y q ey hy e1 => ?_⟩
  · rcases set_key ey with ⟨rfl, rfl, _⟩ | ⟨z, e2⟩
    · exact .inl rfl
    · rw [List.getElem?_set_ne (Ne.symm z)]; exact r.slot j y e2
  · rcases set_key ey with ⟨rfl, rfl, _⟩ | ⟨z1, e3⟩
    · cases oy
    · rcases set_key ez with ⟨rfl, rfl, _⟩ | ⟨z2, e4⟩
      · cases oz
      · rw [List.getElem?_set_ne (Ne.symm z1)] at e1
        rw [List.getElem?_set_ne (Ne.symm z2)] at e2
        exact r.apart j k y z q hjk e3 e4 oy oz e1 e2
  · rcases set_key ey with ⟨rfl, rfl, _⟩ | ⟨z, e2⟩
    · cases hp
    · rw [List.getElem?_set_ne (Ne.symm z)]; exact r.pin j y e2 hp
  · have z : j ≠ i := fun z => by subst z; rw [hi] at eq; cases eq
    obtain ⟨y, e2, e3⟩ := r.io j q eq
    exact ⟨y, by rw [List.getElem?_set_ne (Ne.symm z)]; exact e2, e3⟩
  · rcases set_key ey with ⟨rfl, rfl, _⟩ | ⟨z, e2⟩
    · cases hy
    · rw [List.getElem?_set_ne (Ne.symm z)] at e1
      exact r.onew j y q e2 hy e1
theorem Rel.wipe (r : Rel K mg B F H σ s) : ∀ {vs : List Nat}, (∀ v ∈ vs, B.io v = none) → Rel K mg B F H (wipe σ vs) (wipeD s vs)
  | [], _ => r
  | v :: vs, h => by
    have := Rel.wipe r (vs := vs) fun v hv => h v (List.mem_cons_of_mem _ hv)
    exact this.forget (h v List.mem_cons_self)
theorem wipe_at {σ : St} {j : Nat} : ∀ {vs : List Nat}, j ∉ vs → (wipe σ vs)[j]? = σ[j]?
  | [], _ => rfl
  | v :: vs, h => by
    simp only [List.mem_cons, not_or] at h
    unfold L2.wipe
    rw [List.getElem?_set_ne (Ne.symm h.1)]
    exact wipe_at h.2
theorem wipe_in {σ : St} {j : Nat} : ∀ {vs : List Nat}, j ∈ vs → (wipe σ vs)[j]? = if j < σ.length then some none else none
  | [], h => by simp at h
  | v :: vs, h => by
    unfold L2.wipe
    by_cases z : v = j
    · subst z
      by_cases hl : v < σ.length
      · rw [if_pos hl, List.getElem?_set_self (by rw [wipe_length]; exact hl)]
      · rw [if_neg hl, List.getElem?_eq_none (by simpa [wipe_length] using hl)]
    · rw [List.getElem?_set_ne z]
      exact wipe_in ((List.mem_cons.mp h).resolve_left fun e => z e.symm)
theorem wipe_eq {σ σ' : St} {vs : List Nat} (hl : σ'.length = σ.length) (h : ∀ j, j ∉ vs → σ'[j]? = σ[j]?) : wipe σ' vs = wipe σ vs := by
  apply List.ext_getElem?
  intro j
  by_cases z : j ∈ vs
  · rw [wipe_in z, wipe_in z, hl]
  · rw [wipe_at z, wipe_at z, h j z]
theorem wipe_wipe {σ : St} {vs : List Nat} : wipe (wipe σ vs) vs = wipe σ vs := wipe_eq (wipe_length _ _) fun j z => wipe_at z
theorem wipeD_length (s : DS) : ∀ vs : List Nat, (wipeD s vs).length = s.length
  | [] => rfl
  | v :: vs => by unfold wipeD; rw [List.length_set, wipeD_length s vs]
theorem wipeD_at {s : DS} {j : Nat} : ∀ {vs : List Nat}, j ∉ vs → (wipeD s vs)[j]? = s[j]?
  | [], _ => rfl
  | v :: vs, h => by
    simp only [List.mem_cons, not_or] at h
    unfold wipeD
    rw [List.getElem?_set_ne (Ne.symm h.1)]
    exact wipeD_at h.2
theorem wipeD_in {s : DS} {j : Nat} {y : Slot} : ∀ {vs : List Nat}, j ∈ vs → (wipeD s vs)[j]? = some y → y = .no
  | [], h, _ => by simp at h
  | v :: vs, h, e => by
    unfold wipeD at e
    rcases set_key e with ⟨rfl, rfl, _⟩ | ⟨z, e2⟩
    · rfl
    · exact wipeD_in ((List.mem_cons.mp h).resolve_left z) e2
theorem restD_length (s1 s2 : DS) : ∀ vs : List Nat, (restD s1 s2 vs).length = s2.length
  | [] => rfl
  | v :: vs => by unfold restD; rw [List.length_set, restD_length s1 s2 vs]
theorem restD_at {s1 s2 : DS} {j : Nat} : ∀ {vs : List Nat}, j ∉ vs → (restD s1 s2 vs)[j]? = s2[j]?
  | [], _ => rfl
  | v :: vs, h => by
    simp only [List.mem_cons, not_or] at h
    unfold restD
    rw [List.getElem?_set_ne (Ne.symm h.1)]
    exact restD_at h.2
theorem restD_in {s1 s2 : DS} {j : Nat} {y : Slot} : ∀ {vs : List Nat}, j ∈ vs → (restD s1 s2 vs)[j]? = some y → y = s1.getD j .no
  | [], h, _ => by simp at h
  | v :: vs, h, e => by
    unfold restD at e
    rcases set_key e with ⟨rfl, rfl, _⟩ | ⟨z, e2⟩
    · rfl
    · exact restD_in ((List.mem_cons.mp h).resolve_left z) e2
theorem okOwn_at {s : DS} {vs : List Nat} (h : okOwn s vs = true) {v : Nat} (hv : v ∈ vs) : s[v]? = some .no ∨ ∃ d, s[v]? = some (.sh d) := by
  have := List.all_eq_true.mp h v hv
  split at this
  · exact .inl (by assumption)
  · exact .inr ⟨_, by assumption⟩
  · cases this
theorem okOwn_io (r : Rel K mg B F H σ s) {vs : List Nat} (h : okOwn s vs = true) : ∀ v ∈ vs, B.io v = none := fun v hv => by
  cases q : B.io v with
  | none => rfl
  | some p =>
    obtain ⟨y, e, hp⟩ := r.io v p q
    rcases okOwn_at h hv with z | ⟨d, z⟩
    · rw [z] at e; cases e; cases hp
    · rw [z] at e; cases e; cases hp
/-- back from a comprehension's block -/
theorem Rel.unwipe (r1 : Rel K mg B F H σ s) {vs : List Nat} (ok : okOwn s vs = true) {F' H' : Hp} {s' : DS} (sm : Same F F') (r' : Rel K mg B F' H' (L2.wipe σ vs) (wipeD s' vs)) : Rel K mg B F' H' σ (restD s s' vs) := by
  have same : ∀ {j}, j ∉ vs → (restD s s' vs)[j]? = (wipeD s' vs)[j]? := fun z => by rw [restD_at z, wipeD_at z]
  have own : ∀ {j : Nat} {y : Slot}, (restD s s' vs)[j]? = some y → y.isOw = true → j ∉ vs := fun {j y} e hy hj => by
    have := restD_in hj e
    subst this
    rcases okOwn_at ok hj with z | ⟨d, z⟩
    · simp [List.getD, z] at hy; cases hy
    · simp [List.getD, z] at hy; cases hy
  have pin : ∀ {j : Nat} {y : Slot}, (restD s s' vs)[j]? = some y → y.pin = true → j ∉ vs := fun {j y} e hy hj => by
    have := restD_in hj e
    subst this
    rcases okOwn_at ok hj with z | ⟨d, z⟩
    · simp [List.getD, z] at hy; cases hy
    · simp [List.getD, z] at hy; cases hy
  have hio := okOwn_io r1 ok
  refine ⟨r'.sub, r'.ext, r'.new, r'.frame, ?_, fun j y ey => ?_, fun j k y z q hjk ey ez oy oz e1 e2 => ?_, fun j y ey hp => ?_, fun j q eq => ?_, fun j y q ey hy e1 => ?_⟩
  · have := r'.len
    rw [wipe_length, wipeD_length] at this
    rw [restD_length, this]
  · by_cases z : j ∈ vs
    · have e := restD_in z ey
      subst e
      rcases okOwn_at ok z with q | ⟨d, q⟩
      · left; simp [List.getD, q]
      · obtain ⟨v, e2, rp⟩ := r1.shared q
        refine .inr ⟨v, e2, ?_⟩
        have : s.getD j .no = .sh d := by simp [List.getD, q]
        rw [this]
        exact Rep.keeps (Same.keeps sm) d v rp
    · rw [same z] at ey
      rcases r'.slot j y ey with h | ⟨v, e2, q⟩
      · exact .inl h
      · rw [wipe_at z] at e2
        exact .inr ⟨v, e2, q⟩
  · have a := own ey oy
    have b := own ez oz
    rw [same a] at ey
    rw [same b] at ez
    exact r'.apart j k y z q hjk ey ez oy oz (by rw [wipe_at a]; exact e1) (by rw [wipe_at b]; exact e2)
  · have a := pin ey hp
    rw [same a] at ey
    obtain ⟨q, e1, e2⟩ := r'.pin j y ey hp
    rw [wipe_at a] at e2
    exact ⟨q, e1, e2⟩
  · have a : j ∉ vs := fun z => by rw [hio j z] at eq; cases eq
    obtain ⟨y, e1, e2⟩ := r'.io j q eq
    exact ⟨y, by rw [same a]; exact e1, e2⟩
  · have a := own ey hy
    rw [same a] at ey
    exact r'.onew j y q ey hy (by rw [wipe_at a]; exact e1)
theorem Hid.unwipe {vs : List Nat} (ok : okOwn s vs = true) {F' H' : Hp} {s' : DS} {p : Addr} {o : HO} (h : Hid B F' H' (L2.wipe σ vs) (wipeD s' vs) p o) : Hid B F' H' σ (restD s s' vs) p o := by
  refine ⟨h.f, h.h, h.h0, fun j y ey hy e1 => ?_, h.nt⟩
  have a : j ∉ vs := fun hj => by
    have := restD_in hj ey
    subst this
    rcases okOwn_at ok hj with z | ⟨d, z⟩
    · simp [List.getD, z] at hy; cases hy
    · simp [List.getD, z] at hy; cases hy
  rw [restD_at a, ← wipeD_at a] at ey
  exact h.no j y ey hy (by rw [wipe_at a]; exact e1)
theorem Hid.wipe {p : Addr} {o : HO} (h : Hid B F H σ s p o) (vs : List Nat) : Hid B F H (L2.wipe σ vs) (wipeD s vs) p o := by
  refine ⟨h.f, h.h, h.h0, fun j y ey hy e1 => ?_, h.nt⟩
  by_cases z : j ∈ vs
  · have := wipeD_in z ey
    subst this; cases hy
  · rw [wipeD_at z] at ey
    rw [wipe_at z] at e1
    exact h.no j y ey hy e1
end
section
variable {X : Cx}
/-- the comprehension's reading, the items known -/
theorem lc_read {gi : List Nat} {g : D → DS → Option DS} {t : DS → Res Bool} {e : DS → Res D} {vs : List Nat} {B : Base} {F H : Hp} {σ : St} {s : DS} {J : It} {items : List D} {Q : VK} {P : Hp → Prop} {K : PySem.W.Frag} {mg : Str → Option Value}
    (hP : ∀ F' H' σ' s', Rel K mg B F' H' σ' s' → P H') (r : Rel K mg B F H σ s) (w : WalkD K mg P J F items) (hgi : ∀ j ∈ gi, j ∈ vs) {bad : Exn → DS → Prop}
    (p : Post B F (lcRun vs g t e items s) (fun x ds' => ∀ p o F' H', Rel K mg B F' H' σ ds' → Same F F' → F' p = none → H' p = some o → OwnObj K mg F' x o → (B.H0 p = none ∨ B.ow p) → (∀ (j : Nat) y, ds'[j]? = some y → y.isOw = true → σ[j]? ≠ some (some (.ref p))) → Q (.ref p) H') bad) :
    ∀ Dp, H Dp = none → ∃ Wv : Nat → Nat → Hp → Prop, (∃ m, Wv 0 m (upd H Dp (.lst []))) ∧ ∀ i m H, Wv i m H →
      (J.stop i H ∧ Q (.ref Dp) H) ∨ (J.go i H ∧ ∃ Nx : Hp → Prop, (∀ H', Nx H' → ∃ m', m' < m ∧ Wv (i + 1) m' H') ∧ ∀ x H', J.yld i H x H' → tDG K mg gi g x (wipe σ vs) H' fun σ2 H2 => wipe σ2 vs = wipe σ vs ∧ tDT K mg WF t σ2 H2 fun b H3 =>
        if b = true then tD K mg WF e σ2 H3 fun y H4 => ∃ acc, H4 Dp = some (.lst acc) ∧ acc.length < sizeLine ∧ Nx (upd H4 Dp (.lst (acc ++ [y]))) else Nx H3) := by
  intro Dp hD
  unfold lcRun at p
  by_cases hc : okOwn s vs = true ∧ items.length ≤ sizeLine
  case neg => rw [if_neg hc] at p; exact p.elim
  rw [if_pos hc] at p
  obtain ⟨ok, hlen⟩ := hc
  have hio := okOwn_io r ok
  have nt : ∀ (acc : List V) xs, HO.lst acc ≠ .tup xs := fun _ _ z => by cases z
  -- what is wanted of what is left
  let Good : List D → List D → DS → Prop := fun ys zs s2 => ∀ F' H' acc, Rel K mg B F' H' (wipe σ vs) (wipeD s2 vs) → Same F F' → Hid B F' H' (wipe σ vs) (wipeD s2 vs) Dp (.lst acc) → Reps K mg F' (ys ++ zs) acc → Q (.ref Dp) H'
  have p0 : Post B F (lcM vs g t e items s) (Good []) (fun _ _ => True) := p.bind.mono (fun zs s2 h F' H' acc r' sm hd rp => by
    have r2 := r.unwipe ok sm r'
    have hd2 := hd.unwipe (s := s) ok
    exact h Dp (.lst acc) F' H' r2 sm hd2.f hd2.h ⟨acc, rfl, by simpa using rp⟩ hd2.h0 hd2.no) fun _ _ _ => trivial
  refine ⟨fun i m H => m = items.length - i ∧ i ≤ items.length ∧ ∃ F' s' ys acc, Rel K mg B F' H (wipe σ vs) (wipeD s' vs) ∧ Same F F' ∧ Hid B F' H (wipe σ vs) (wipeD s' vs) Dp (.lst acc) ∧ Reps K mg F' ys acc ∧ ys.length ≤ i ∧ Post B F' (lcM vs g t e (items.drop i) s') (Good ys) (fun _ _ => True), ?_, ?_⟩
  · have rw0 := r.wipe hio
    obtain ⟨r1, h1⟩ := rw0.newH (o := .lst []) hD (nt [])
    exact ⟨items.length, by omega, Nat.zero_le _, F, s, [], [], r1, Same.refl F, h1, .nil, Nat.zero_le _, by simpa using p0.reF⟩
  · rintro i m H1 ⟨rfl, hi, F', s', ys, acc, r', sm, hd, rp, hy, pp⟩
    by_cases hlt : i < items.length
    · rw [List.drop_eq_getElem_cons hlt] at pp
      refine .inr ⟨w.go i F' H1 sm r'.sub (hP _ _ _ _ r') hlt, fun H' => items.length - (i + 1) = items.length - (i + 1) ∧ i + 1 ≤ items.length ∧ ∃ F' s' ys acc, Rel K mg B F' H' (wipe σ vs) (wipeD s' vs) ∧ Same F F' ∧ Hid B F' H' (wipe σ vs) (wipeD s' vs) Dp (.lst acc) ∧ Reps K mg F' ys acc ∧ ys.length ≤ i + 1 ∧ Post B F' (lcM vs g t e (items.drop (i + 1)) s') (Good ys) (fun _ _ => True),
        fun H' h => ⟨items.length - (i + 1), by omega, h⟩, fun x H' y => ?_⟩
      obtain ⟨F2, d, e1, gr, rpd⟩ := w.yld i F' H1 x H' sm r'.sub (hP _ _ _ _ r') hlt y
      rw [List.getElem?_eq_getElem hlt] at e1
      cases e1
      have rh := r'.hide hd
      obtain ⟨r2, sm2⟩ := gr.rel rh
      have pp : Post B F' (match g items[i] (wipeD s' vs) with
        | none => .bad
        | some s1 => ((t s1).noex).bind fun b s2 => match b with
          | true => ((e s2).noex).bind fun y s3 => (lcM vs g t e (items.drop (i + 1)) s3).bind fun ys s4 => .ok (y :: ys) s4
          | false => lcM vs g t e (items.drop (i + 1)) s2) (Good ys) (fun _ _ => True) := pp
      cases eg : g items[i] (wipeD s' vs) with
      | none => rw [eg] at pp; exact pp.elim
      | some s1 =>
        rw [eg] at pp
        refine ⟨hideB B F' H1 Dp, F2, wipeD s' vs, items[i], s1, r2, rpd, eg, fun σ2 r3 hl hj => ?_⟩
        have hl2 : σ2.length = σ.length := by rw [hl, wipe_length]
        have hw : wipe σ2 vs = wipe σ vs := by
          rw [← wipe_wipe (σ := σ)]
          exact wipe_eq (by rw [wipe_length, hl2]) fun j hn => hj j fun z => hn (hgi j z)
        refine ⟨hw, hideB B F' H1 Dp, F2, s1, r3, post_noex pp.bind fun b s2 pb F3 H3 r4 sm3 => ?_⟩
        cases b with
        | false =>
          refine iteF ?_
          obtain ⟨r5, h5⟩ := r'.unhide hd r4
          have r6 := r5.wipe hio
          have h6 := h5.wipe vs
          rw [hw] at r6 h6
          exact ⟨rfl, hlt, F3, s2, ys, acc, r6, (sm.trans sm2).trans sm3, h6, Reps.keeps (Same.keeps (sm2.trans sm3)) _ _ rp, by omega, pb.reF⟩
        | true =>
          refine iteT ⟨hideB B F' H1 Dp, F3, s2, r4, post_noex pb.bind fun yd s3 pe v F4 H4 r5 sm4 rv => ?_⟩
          obtain ⟨r6, h6⟩ := r'.unhide hd r5
          have smA : Same F' F4 := (sm2.trans sm3).trans sm4
          have rp4 := Reps.keeps (Same.keeps smA) _ _ rp
          refine ⟨acc, h6.h, ?_, ?_⟩
          · have := rp.len
            omega
          · obtain ⟨r7, h7⟩ := r6.writeH (o' := .lst (acc ++ [v])) h6 (nt _)
            have r8 := r7.wipe hio
            have h8 := h7.wipe vs
            rw [hw] at r8 h8
            refine ⟨rfl, hlt, F4, s3, ys ++ [yd], acc ++ [v], r8, sm.trans smA, h8, rp4.append (.cons rv .nil), by simp; omega, pe.bind.mono (fun zs s4 h F5 H5 acc5 r9 s9 h9 rp9 => ?_) fun _ _ _ => trivial⟩
            exact h F5 H5 acc5 r9 s9 h9 (by simpa using rp9)
    · have e1 : i = items.length := by omega
      subst e1
      rw [List.drop_length] at pp
      exact .inl ⟨w.stop _ F' H1 sm r'.sub (hP _ _ _ _ r') rfl, pp F' H1 acc r' sm hd (by simpa using rp)⟩
end
end DL

set_option autoImplicit true
/-! D-layer, part h: comprehensions, the rules. -/
namespace DL
open PySem PySem.Spec PyProof.Rows L2
set_option autoImplicit false
theorem PTs.imp {X : Cx} {e : List Expr} {t t' : TT} (h : PTs X e t) (i : ∀ σ H Q, t' σ H Q → t σ H Q) : PTs X e t' := ⟨fun pins s σ H Q I q => h.run pins s σ H Q I (i σ H Q q)⟩
abbrev DTs (X : Cx) (W : WX) (ifs : List Expr) (t : DS → Res Bool) : Prop := PTs X ifs (tDT X.K X.mg W t)
section
variable {X : Cx} {W : WX} {pos : Pos} {e : Expr}
theorem dts_nil : DTs X W [] tYesD := PTs.imp pts_nil fun σ H Q ⟨B, F, ds, r, p⟩ => p F H r (Same.refl _)
theorem dts_one {c : Expr} {t : DS → Res Bool} (h : DT X W c t) : DTs X W [c] t := pts_one h
variable {elt tg iter : Expr} {ifs : List Expr} {scope : Scope} {own : List (Str × Nat)} {f : DS → Res (List D)} {gi : List Nat} {g : D → DS → Option DS} {t : DS → Res Bool} {el : DS → Res D}
theorem lc_of {σ : St} {H : Hp} {Q : VK} {vs : List Nat} (hgi : ∀ j ∈ gi, j ∈ vs) (h : tN X.K X.mg W (nLc f vs g t el) σ H Q) : tLc (tDI X.K X.mg W f) (tDG X.K X.mg gi g) (tDT X.K X.mg WF t) (tD X.K X.mg WF el) vs σ H Q := by
  obtain ⟨B, F, s, r, p⟩ := h
  refine ⟨B, F, s, r, p.bind.mono (fun items s1 p J F' H' r' sm w => ?_) fun _ _ h => h⟩
  exact lc_read (fun _ _ _ _ _ => trivial) r' w hgi (p.mono (fun x s h pa o F2 H2 r2 s2 => h pa o F2 H2 r2 (sm.trans s2)) fun x s h => h.mono sm)
theorem walkS_lc {σ : St} {H : Hp} {Q : VK} {i : Nat} {vs : List Nat} (hgi : ∀ j ∈ gi, j ∈ vs) (h : tN X.K X.mg W (walkS i (lcRun vs g t el)) σ H Q) :
    tLc (iList X.K (tVar i)) (tDG X.K X.mg gi g) (tDT X.K X.mg WF t) (tD X.K X.mg WF el) vs σ H Q ∨ tLc (iTup X.K (tVar i)) (tDG X.K X.mg gi g) (tDT X.K X.mg WF t) (tD X.K X.mg WF el) vs σ H Q ∨
    tLc (iStr (tVar i)) (tDG X.K X.mg gi g) (tDT X.K X.mg WF t) (tD X.K X.mg WF el) vs σ H Q ∨ tLc (iKeys (tVar i)) (tDG X.K X.mg gi g) (tDT X.K X.mg WF t) (tD X.K X.mg WF el) vs σ H Q ∨
    tLockE (tLc (iKeys (tVar i)) (tDG X.K X.mg gi g) (tDT X.K X.mg WF t) (tD X.K X.mg WF el) vs) σ H Q := by
  obtain ⟨B, F, s, r, p⟩ := h
  unfold walkS at p
  split at p
  · rename_i l e1
    obtain ⟨v, ev, q⟩ := r.shared e1
    obtain ⟨a, ws, rfl, sq, rp⟩ := q.lst_
    exact .inl ⟨_, ev, a, rfl, ⟨ws, .of (r.sub _ _ sq)⟩, lc_read (fun _ _ _ _ _ => trivial) r (walk_list sq rp) hgi p⟩
  · rename_i l e1
    obtain ⟨v, ev, q⟩ := r.shared e1
    obtain ⟨a, ws, rfl, sq, rp⟩ := q.tup_
    exact .inr (.inl ⟨_, ev, a, rfl, ⟨ws, .of (r.sub _ _ sq)⟩, lc_read (fun _ _ _ _ _ => trivial) r (walk_tup sq rp) hgi p⟩)
  · rename_i l e1
    obtain ⟨v, ev, q⟩ := r.shared e1
    cases Rep.str_ q
    exact .inr (.inr (.inl ⟨_, ev, l, rfl, lc_read (fun _ _ _ _ _ => trivial) r walk_str hgi p⟩))
  · rename_i l e1
    obtain ⟨v, ev, q⟩ := r.shared e1
    obtain ⟨a, ws, rfl, rd, rp⟩ := q.dT_
    rcases rd with rd | ⟨o, rd⟩
    · refine .inr (.inr (.inr (.inr ⟨a, _, r.sub _ _ rd, trivial, fun od => ?_⟩)))
      have r1 := r.lockS rd (keeps_lockT (od := od) rd)
      refine ⟨_, ev, a, od, rfl, .inr ⟨ws, upd_same, ?_⟩⟩
      refine lc_read (B := lockSB B F H a (.frz od (.dT ws))) (Q := fun v H' => H' a = some (.frz od (.dT ws)) ∧ Q v (upd H' a (.dT ws))) (fun _ _ _ _ _ => trivial) r1 (walk_T (P := fun _ => True) (fun F' H' s1 s2 _ => s2 _ _ (s1 _ _ upd_same)) (RepT.keeps (keeps_lockT rd) _ _ rp)) hgi (post_noex (b' := fun _ _ => False) p fun x s' h pa o F2 H2 r2 _ f2 h2 oo h0 hn => ?_)
      obtain ⟨hH, sm, r3⟩ := r.unlockS rd (fun hF => keeps_unlockT hF) r2
      have hF := r2.ext a _ upd_same
      have ne : pa ≠ a := fun z => by subst z; rw [hF] at f2; cases f2
      refine ⟨hH, h pa o _ _ r3 sm (by rw [upd_ne ne]; exact f2) (by rw [upd_ne ne]; exact h2) (oo.keeps (keeps_unlockT hF)) ?_ hn⟩
      rcases h0 with h0 | h0
      · rw [show (lockSB B F H a (.frz od (.dT ws))).H0 = upd H a (.frz od (.dT ws)) from rfl, upd_ne ne] at h0
        exact r.fresh0 h0
      · exact h0.2
    · refine .inr (.inr (.inr (.inl ⟨_, ev, a, o, rfl, .inr ⟨ws, r.sub _ _ rd, ?_⟩⟩)))
      exact lc_read (fun _ _ _ _ _ => trivial) r (walk_T (P := fun _ => True) (fun F' H' s1 s2 _ => s2 _ _ (s1 _ _ rd)) rp) hgi (post_noex (b' := fun _ _ => False) p fun fl s' h => h)
  · rename_i l e1
    obtain ⟨v, ev, q⟩ := r.shared e1
    obtain ⟨a, ws, rfl, rd, rp⟩ := q.dK_
    rcases rd with rd | ⟨o, rd⟩
    · refine .inr (.inr (.inr (.inr ⟨a, _, r.sub _ _ rd, trivial, fun od => ?_⟩)))
      have r1 := r.lockS rd (keeps_lockK (od := od) rd)
      refine ⟨_, ev, a, od, rfl, .inl ⟨ws, upd_same, ?_⟩⟩
      refine lc_read (B := lockSB B F H a (.frz od (.dK ws))) (Q := fun v H' => H' a = some (.frz od (.dK ws)) ∧ Q v (upd H' a (.dK ws))) (fun _ _ _ _ _ => trivial) r1 (walk_K (P := fun _ => True) (fun F' H' s1 s2 _ => s2 _ _ (s1 _ _ upd_same)) (RepK.keeps (keeps_lockK rd) _ _ rp)) hgi (post_noex (b' := fun _ _ => False) p fun x s' h pa o F2 H2 r2 _ f2 h2 oo h0 hn => ?_)
      obtain ⟨hH, sm, r3⟩ := r.unlockS rd (fun hF => keeps_unlockK hF) r2
      have hF := r2.ext a _ upd_same
      have ne : pa ≠ a := fun z => by subst z; rw [hF] at f2; cases f2
      refine ⟨hH, h pa o _ _ r3 sm (by rw [upd_ne ne]; exact f2) (by rw [upd_ne ne]; exact h2) (oo.keeps (keeps_unlockK hF)) ?_ hn⟩
      rcases h0 with h0 | h0
      · rw [show (lockSB B F H a (.frz od (.dK ws))).H0 = upd H a (.frz od (.dK ws)) from rfl, upd_ne ne] at h0
        exact r.fresh0 h0
      · exact h0.2
    · refine .inr (.inr (.inr (.inl ⟨_, ev, a, o, rfl, .inl ⟨ws, r.sub _ _ rd, ?_⟩⟩)))
      exact lc_read (fun _ _ _ _ _ => trivial) r (walk_K (P := fun _ => True) (fun F' H' s1 s2 _ => s2 _ _ (s1 _ _ rd)) rp) hgi (post_noex (b' := fun _ _ => False) p fun fl s' h => h)
  · rename_i io l e1
    obtain ⟨a, o, ev, f, hp, q⟩ := r.owned e1
    obtain ⟨ws, rfl, rp⟩ := q
    have r1 := r.lock (.lst ws) e1 ev
    rw [upd_self hp] at r1
    refine .inl ⟨_, ev, a, rfl, ⟨ws, .of hp⟩, lc_read (P := fun H => H a = some (.lst ws)) (fun F2 H2 σ2 s2 r2 => ?_) r1 (walk_listO rp) hgi (post_back (b' := fun _ _ => True) p (fun x s' h pa o F2 H2 r2 sm f2 h2 oo h0 hn => ?_) fun _ _ _ => trivial)⟩
    · exact r2.frame a _ hp fun z => z.1 rfl
    · obtain ⟨h1, r3⟩ := r.unlock (o1 := .lst ws) e1 ev hp (fun _ z => by cases z) (by rw [upd_self hp]; exact r2)
      rw [upd_self h1] at r3
      have nea : pa ≠ a := fun z => by
        subst z
        rcases h0 with h0 | h0
        · rw [show (lockB B F H i pa).H0 = H from rfl, hp] at h0; cases h0
        · exact h0.1 rfl
      refine h pa o F2 H2 r3 sm f2 h2 oo ?_ fun j y ey hy e2 => ?_
      · rcases h0 with h0 | h0
        · exact r.fresh0 h0
        · exact h0.2
      · rcases set_key ey with ⟨rfl, rfl, _⟩ | ⟨z, e3⟩
        · rw [ev] at e2; cases e2; exact nea rfl
        · exact hn j y e3 hy e2
  · rename_i io l e1
    obtain ⟨a, o, ev, f, hp, q⟩ := r.owned e1
    obtain ⟨ws, rfl, rp⟩ := q
    refine .inr (.inr (.inr (.inr ⟨a, _, hp, trivial, fun od => ?_⟩)))
    have r1 := r.lock (.frz od (.dT ws)) e1 ev
    refine ⟨_, ev, a, od, rfl, .inr ⟨ws, upd_same, ?_⟩⟩
    refine lc_read (Q := fun v H' => H' a = some (.frz od (.dT ws)) ∧ Q v (upd H' a (.dT ws))) (P := fun H => H a = some (.frz od (.dT ws))) (fun F2 H2 σ2 s2 r2 => ?_) r1 (walk_T (fun F' H' s1 s2 h => h) rp) hgi (post_back (b' := fun _ _ => True) (post_noex (B' := B) (F' := F) (b' := fun _ _ => False) p fun _ _ h => h) (fun x s' h pa o F2 H2 r2 sm f2 h2 oo h0 hn => ?_) fun _ _ h => h.elim)
    · exact r2.frame a _ upd_same fun z => z.1 rfl
    · obtain ⟨h1, r3⟩ := r.unlock (o1 := .frz od (.dT ws)) e1 ev hp (fun _ z => by cases z) r2
      have nea : pa ≠ a := fun z => by
        subst z
        rcases h0 with h0 | h0
        · rw [show (lockB B F (upd H pa (.frz od (.dT ws))) i pa).H0 = upd H pa (.frz od (.dT ws)) from rfl, upd_same] at h0; cases h0
        · exact h0.1 rfl
      refine ⟨h1, h pa o F2 _ r3 sm f2 (by rw [upd_ne nea]; exact h2) oo ?_ fun j y ey hy e2 => ?_⟩
      · rcases h0 with h0 | h0
        · rw [show (lockB B F (upd H a (.frz od (.dT ws))) i a).H0 = upd H a (.frz od (.dT ws)) from rfl, upd_ne nea] at h0
          exact r.fresh0 h0
        · exact h0.2
      · rcases set_key ey with ⟨rfl, rfl, _⟩ | ⟨z, e3⟩
        · rw [ev] at e2; cases e2; exact nea rfl
        · exact hn j y e3 hy e2
  · rename_i io l e1
    obtain ⟨a, o, ev, f, hp, q⟩ := r.owned e1
    obtain ⟨ws, rfl, rp⟩ := q
    refine .inr (.inr (.inr (.inr ⟨a, _, hp, trivial, fun od => ?_⟩)))
    have r1 := r.lock (.frz od (.dK ws)) e1 ev
    refine ⟨_, ev, a, od, rfl, .inl ⟨ws, upd_same, ?_⟩⟩
    refine lc_read (Q := fun v H' => H' a = some (.frz od (.dK ws)) ∧ Q v (upd H' a (.dK ws))) (P := fun H => H a = some (.frz od (.dK ws))) (fun F2 H2 σ2 s2 r2 => ?_) r1 (walk_K (fun F' H' s1 s2 h => h) rp) hgi (post_back (b' := fun _ _ => True) (post_noex (B' := B) (F' := F) (b' := fun _ _ => False) p fun _ _ h => h) (fun x s' h pa o F2 H2 r2 sm f2 h2 oo h0 hn => ?_) fun _ _ h => h.elim)
    · exact r2.frame a _ upd_same fun z => z.1 rfl
    · obtain ⟨h1, r3⟩ := r.unlock (o1 := .frz od (.dK ws)) e1 ev hp (fun _ z => by cases z) r2
      have nea : pa ≠ a := fun z => by
        subst z
        rcases h0 with h0 | h0
        · rw [show (lockB B F (upd H pa (.frz od (.dK ws))) i pa).H0 = upd H pa (.frz od (.dK ws)) from rfl, upd_same] at h0; cases h0
        · exact h0.1 rfl
      refine ⟨h1, h pa o F2 _ r3 sm f2 (by rw [upd_ne nea]; exact h2) oo ?_ fun j y ey hy e2 => ?_⟩
      · rcases h0 with h0 | h0
        · rw [show (lockB B F (upd H a (.frz od (.dK ws))) i a).H0 = upd H a (.frz od (.dK ws)) from rfl, upd_ne nea] at h0
          exact r.fresh0 h0
        · exact h0.2
      · rcases set_key ey with ⟨rfl, rfl, _⟩ | ⟨z, e3⟩
        · rw [ev] at e2; cases e2; exact nea rfl
        · exact hn j y e3 hy e2
  · exact p.elim
/-- what the name's block asks -/
structure Blk (X : Cx) (tg elt : Expr) (ifs : List Expr) (scope : Scope) (own : List (Str × Nat)) (gi : List Nat) (g : D → DS → Option DS) (t : DS → Res Bool) (el : DS → Res D) : Prop where
  ok : BlkOk X.N X.env.scope scope own
  gin : ∀ j ∈ gi, j ∈ own.map (·.2)
  hg : ∀ (s : Shared) (H : Hp) (C : Addr) (cl : List (Str × Addr)) (fp : List Addr), DG (X.blk s H scope (compEnvC scope cl C X.env) fp) tg gi g
  ht : ∀ (s : Shared) (H : Hp) (C : Addr) (cl : List (Str × Addr)) (fp : List Addr), DTs (X.blk s H scope (compEnvC scope cl C X.env) fp) WF ifs t
  he : ∀ (s : Shared) (H : Hp) (C : Addr) (cl : List (Str × Addr)) (fp : List Addr), DE (X.blk s H scope (compEnvC scope cl C X.env) fp) WF elt el
theorem dn_lc (hc : X.calm = true) (hN : X.N.Nodup) (hi : DI X W tg iter f) (b : Blk X tg elt ifs scope own gi g t el) (hs : ∀ x, foldedSetIterable iter X.env x = pure x := by intro _; rfl) : DN X W (.ListComp elt [⟨tg, iter, ifs, 0⟩] scope pos) (nLc f (own.map (·.2)) g t el) :=
  PE.imp (pe_lc (g := tDG X.K X.mg gi g) (tt := tDT X.K X.mg WF t) (te := tD X.K X.mg WF el) hc hN hi b.ok b.hg b.ht b.he hs) fun _ _ _ h => lc_of b.gin h
theorem dn_lcS (i : Nat) {x : Str} {p1 : Pos} (hc : X.calm = true) (hN : X.N.Nodup) (b : Blk X tg elt ifs scope own gi g t el)
    (hNi : X.N[i]? = some x := by rfl) (hv : Vis X.env.scope x := by first | exact Or.inl rfl | exact Or.inr (Or.inl rfl) | exact Or.inr (Or.inr rfl)) (hd : (x == ("__debug__" : Str)) = false := by decide)
    (hcd : (x == ("__classdict__" : Str)) = false := by decide) (hs : ∀ v, foldedSetIterable (.Name x p1) X.env v = pure v := by intro _; rfl) : DN X W (.ListComp elt [⟨tg, .Name x p1, ifs, 0⟩] scope pos) (walkS i (lcRun (own.map (·.2)) g t el)) := by
  have pv : PE X (.Name x p1) (tVar i) := pe_var hNi hv hd hcd
  have f1 := pe_lc (pos := pos) (g := tDG X.K X.mg gi g) (tt := tDT X.K X.mg WF t) (te := tD X.K X.mg WF el) hc hN (pi_list pv) b.ok b.hg b.ht b.he hs
  have f2 := pe_lc (pos := pos) (g := tDG X.K X.mg gi g) (tt := tDT X.K X.mg WF t) (te := tD X.K X.mg WF el) hc hN (pi_tup pv) b.ok b.hg b.ht b.he hs
  have f3 := pe_lc (pos := pos) (g := tDG X.K X.mg gi g) (tt := tDT X.K X.mg WF t) (te := tD X.K X.mg WF el) hc hN (pi_str pv) b.ok b.hg b.ht b.he hs
  have f4 := pe_lc (pos := pos) (g := tDG X.K X.mg gi g) (tt := tDT X.K X.mg WF t) (te := tD X.K X.mg WF el) hc hN (pi_keys pv) b.ok b.hg b.ht b.he hs
  exact PE.imp (PE.or f1 (PE.or f2 (PE.or f3 (PE.or f4 (pe_lock f4))))) fun _ _ _ h => walkS_lc b.gin h
theorem setO_read {σ : St} {H : Hp} {E : Ends} {j : Nat} {fo : DS → Res Own} (h : tDS X.K X.mg W (sSetO j fo) E σ H) : tN X.K X.mg W fo σ H (fun x H1 => gName j x σ H1 E.nx) := by
  obtain ⟨B, F, ds, r, p⟩ := h
  refine ⟨B, F, ds, r, p.bind.mono (fun d s p pa o F' H' r' s' f' hp q h0 hn => ?_) fun x s h => h σ⟩
  cases e2 : setOw j d s with
  | none => rw [e2] at p; exact p.elim
  | some s2 =>
    rw [e2] at p
    exact p _ F' H' (r'.setOw e2 f' hp q h0 hn) s'
/-- y = [..] -/
theorem ds_setLc {j : Nat} {y : Str} {py : Pos} {spos : Pos} (hc : X.calm = true) (hN : X.N.Nodup) (hi : DI X W tg iter f) (b : Blk X tg elt ifs scope own gi g t el)
    (hsw : swapsWith (.ListComp elt [⟨tg, iter, ifs, 0⟩] scope pos) (some (.Name y py)) spos.line X.env = pure true) (hy : X.N[j]? = some y := by rfl) (hyl : X.env.scope.names.lookup y = some .local := by rfl) (hs : ∀ x, foldedSetIterable iter X.env x = pure x := by intro _; rfl) :
    DSt X W (.Assign [.Name y py] (.ListComp elt [⟨tg, iter, ifs, 0⟩] scope pos) spos) (sSetO j (nLc f (own.map (·.2)) g t el)) :=
  PS.imp (ps_setLc (g := tDG X.K X.mg gi g) (tt := tDT X.K X.mg WF t) (te := tD X.K X.mg WF el) hc hN hy hyl hsw hi b.ok b.hg b.ht b.he hs) fun _ _ _ h => lc_of b.gin (setO_read h)
theorem ds_setLcS (i : Nat) {x : Str} {p1 : Pos} {j : Nat} {y : Str} {py : Pos} {spos : Pos} (hc : X.calm = true) (hN : X.N.Nodup) (b : Blk X tg elt ifs scope own gi g t el)
    (hsw : swapsWith (.ListComp elt [⟨tg, .Name x p1, ifs, 0⟩] scope pos) (some (.Name y py)) spos.line X.env = pure true) (hy : X.N[j]? = some y := by rfl) (hyl : X.env.scope.names.lookup y = some .local := by rfl)
    (hNi : X.N[i]? = some x := by rfl) (hv : Vis X.env.scope x := by first | exact Or.inl rfl | exact Or.inr (Or.inl rfl) | exact Or.inr (Or.inr rfl)) (hd : (x == ("__debug__" : Str)) = false := by decide)
    (hcd : (x == ("__classdict__" : Str)) = false := by decide) (hs : ∀ v, foldedSetIterable (.Name x p1) X.env v = pure v := by intro _; rfl) :
    DSt X W (.Assign [.Name y py] (.ListComp elt [⟨tg, .Name x p1, ifs, 0⟩] scope pos) spos) (sSetO j (walkS i (lcRun (own.map (·.2)) g t el))) := by
  have pv : PE X (.Name x p1) (tVar i) := pe_var hNi hv hd hcd
  have f1 := ps_setLc (g := tDG X.K X.mg gi g) (tt := tDT X.K X.mg WF t) (te := tD X.K X.mg WF el) hc hN hy hyl hsw (pi_list pv) b.ok b.hg b.ht b.he hs
  have f2 := ps_setLc (g := tDG X.K X.mg gi g) (tt := tDT X.K X.mg WF t) (te := tD X.K X.mg WF el) hc hN hy hyl hsw (pi_tup pv) b.ok b.hg b.ht b.he hs
  have f3 := ps_setLc (g := tDG X.K X.mg gi g) (tt := tDT X.K X.mg WF t) (te := tD X.K X.mg WF el) hc hN hy hyl hsw (pi_str pv) b.ok b.hg b.ht b.he hs
  have f4 := ps_setLc (g := tDG X.K X.mg gi g) (tt := tDT X.K X.mg WF t) (te := tD X.K X.mg WF el) hc hN hy hyl hsw (pi_keys pv) b.ok b.hg b.ht b.he hs
  refine PS.imp (PS.or f1 (PS.or f2 (PS.or f3 (PS.or f4 (ps_lock f4))))) fun E σ H h => ?_
  rcases walkS_lc b.gin (setO_read h) with h | h | h | h | h
  · exact .inl h
  · exact .inr (.inl h)
  · exact .inr (.inr (.inl h))
  · exact .inr (.inr (.inr (.inl h)))
  · obtain ⟨d, u, hd, mu, h⟩ := h
    exact .inr (.inr (.inr (.inr ⟨d, u, hd, mu, h⟩)))
end
end DL

set_option autoImplicit true
/-! D-layer, part i: what a def promises; its calls. -/
namespace DL
open PySem PySem.Spec PyProof.Rows L2
set_option autoImplicit false
section
variable (K : PySem.W.Frag) (mg : Str → Option Value)
/-- the arguments as they come -/
structure ArgsIn (F H : Hp) (vs : List V) (ss : DS) : Prop where
  len : vs.length = ss.length
  ok : ∀ (i : Nat) s, ss[i]? = some s → ∃ v, vs[i]? = some v ∧ SlotOk K mg F H v s
  kind : ∀ (i : Nat) s, ss[i]? = some s → (∃ d, s = .sh d) ∨ (∃ x, s = .ow true x)
  apart : ∀ (i j : Nat) x y p, i ≠ j → ss[i]? = some (.ow true x) → ss[j]? = some (.ow true y) → vs[i]? = some (.ref p) → vs[j]? ≠ some (.ref p)
def ioA (vs : List V) (ss : DS) (p : Addr) : Prop := ∃ (i : Nat) (x : Own), ss[i]? = some (.ow true x) ∧ vs[i]? = some (.ref p)
/-- behind the call -/
structure CallEnd (F H : Hp) (vs : List V) (ss outs : DS) (F' H' : Hp) : Prop where
  ext : Same F F'
  sub : Same F' H'
  new : ∀ a o, F' a = some o → (∃ xs, o = .tup xs) ∨ F a = some o ∨ H a = none
  frame : ∀ a o, H a = some o → ¬ ioA vs ss a → H' a = some o
  out : ∀ (i : Nat) x, ss[i]? = some (.ow true x) → ∃ x' p o, outs[i]? = some (.ow true x') ∧ vs[i]? = some (.ref p) ∧ F' p = none ∧ H' p = some o ∧ OwnObj K mg F' x' o
/-- the promise by a plain function of the arguments -/
def spD (n : Nat) (m : DS → Res D) : Sp := fun vs H Q E => ∃ F ss, vs.length = n ∧ Same F H ∧ ArgsIn K mg F H vs ss ∧ Post (B := ⟨F, H, fun _ => none, fun _ => False⟩) (F := F) (m ss)
  (fun d outs => ∀ v F' H', CallEnd K mg F H vs ss outs F' H' → Rep K mg F' d v → Q v H')
  (fun x outs => ∀ cls dd F' H', CallEnd K mg F H vs ss outs F' H' → ExcOk K mg F' x cls dd → E cls dd H')
end
/-- what was owned by a caller is so still -/
def okOuts : DS → DS → Bool
  | [], _ => true
  | x :: ss, y :: s => (match x, y with
    | .ow true _, .ow true _ => true
    | .ow true _, _ => false
    | _, _ => true) && okOuts ss s
  | _ :: _, [] => false
theorem okOuts_at : ∀ {ss s : DS} {i : Nat} {x : Own}, okOuts ss s = true → ss[i]? = some (.ow true x) → ∃ y, s[i]? = some (.ow true y)
  | [], _, _, _, _, e => by simp at e
  | x :: ss, [], _, _, h, _ => by simp [okOuts] at h
  | x :: ss, y :: s, 0, o, h, e => by
    simp at e
    subst e
    simp only [okOuts, Bool.and_eq_true] at h
    cases y with
    | ow io z =>
      cases io with
      | true => exact ⟨_, rfl⟩
      | false => cases h.1
    | _ => cases h.1
  | x :: ss, y :: s, i + 1, o, h, e => by
    simp only [okOuts, Bool.and_eq_true] at h
    simpa using okOuts_at h.2 (by simpa using e)
/-- the body's plain function as the def's -/
def fnM (n : Nat) (g : DS → Res Fl) : DS → Res D := fun ss => match g (ss ++ List.replicate (n - ss.length) .no) with
  | .ok .nx s => if okOuts ss s then .ok .non s else .bad
  | .ok (.rt d) s => if okOuts ss s then .ok d s else .bad
  | .ok _ _ => .bad
  | .ex x s => if okOuts ss s then .ex x s else .bad
  | .bad => .bad
abbrev start := L2.start
section
variable {P : Program} {w : World} {K : PySem.W.Frag} {mg : Str → Option Value} {base : Heap}
def callB (F H : Hp) (vs : List V) (ss : DS) : Base := ⟨F, H, fun i => match ss[i]? with
  | some (.ow true _) => match vs[i]? with
    | some (.ref p) => some p
    | _ => none
  | _ => none, ioA vs ss⟩
theorem start_get {N : List Str} {vs : List V} {i : Nat} (h : i < vs.length) : (start N vs)[i]? = vs[i]?.map some := by
  unfold start L2.start
  rw [List.getElem?_append_left (by simpa using h), List.getElem?_map]
theorem rel_start {F H : Hp} {vs : List V} {ss : DS} {N : List Str} (hF : Same F H) (a : ArgsIn K mg F H vs ss) (hn : vs.length ≤ N.length) : Rel K mg (callB F H vs ss) F H (start N vs) (ss ++ List.replicate (N.length - ss.length) .no) := by
  have key : ∀ {i : Nat} {s}, (ss ++ List.replicate (N.length - ss.length) Slot.no)[i]? = some s → (i < ss.length ∧ ss[i]? = some s) ∨ s = .no := fun {i s} e => by
    by_cases h : i < ss.length
    · rw [List.getElem?_append_left h] at e
      exact .inl ⟨h, e⟩
    · rw [List.getElem?_append_right (Nat.le_of_not_lt h), List.getElem?_replicate] at e
      split at e
      · exact .inr (Option.some.inj e).symm
      · cases e
  have st : ∀ {i : Nat} {v : V}, i < ss.length → vs[i]? = some v → (start N vs)[i]? = some (some v) := fun {i v} h e => by
    rw [start_get (by rw [a.len]; exact h), e]; rfl
  refine ⟨hF, Same.refl F, fun b o h => .inr (.inl h), fun b o h _ => h, ?_, fun i s e => ?_, fun i j x y p hij ex ey ox oy e1 e2 => ?_, fun i s e hp => ?_, fun i p e => ?_, fun i s p e hs e1 => ?_⟩
  · unfold start L2.start
    simp [a.len]
  · rcases key e with ⟨h, e1⟩ | h
    · obtain ⟨v, e2, q⟩ := a.ok i s e1
      exact .inr ⟨v, st h e2, q⟩
    · exact .inl h
  · rcases key ex with ⟨h1, e3⟩ | h
    · rcases key ey with ⟨h2, e4⟩ | h'
      · obtain ⟨v, e5, q⟩ := a.ok i x e3
        obtain ⟨u, e6, q2⟩ := a.ok j y e4
        rw [st h1 e5] at e1; cases e1
        rw [st h2 e6] at e2; cases e2
        rcases a.kind i x e3 with ⟨d, z⟩ | ⟨o, z⟩
        · subst z; cases ox
        · rcases a.kind j y e4 with ⟨d, z'⟩ | ⟨o', z'⟩
          · subst z'; cases oy
          · subst z; subst z'
            exact a.apart i j o o' p hij e3 e4 e5 e6
      · subst h'; cases oy
    · subst h; cases ox
  · rcases key e with ⟨h, e1⟩ | h
    · obtain ⟨v, e2, q⟩ := a.ok i s e1
      rcases a.kind i s e1 with ⟨d, z⟩ | ⟨o, z⟩
      · subst z; cases hp
      · subst z
        obtain ⟨p, ob, ev, _⟩ := q
        subst ev
        refine ⟨p, ?_, st h e2⟩
        show (match ss[i]? with
          | some (.ow true _) => match vs[i]? with
            | some (.ref p) => some p
            | _ => none
          | _ => none) = some p
        rw [e1, e2]
    · subst h; cases hp
  · have e' : (match ss[i]? with
      | some (.ow true _) => match vs[i]? with
        | some (.ref p) => some p
        | _ => none
      | _ => none) = some p := e
    split at e'
    · rename_i x ex
      exact ⟨_, by rw [List.getElem?_append_left (List.getElem?_eq_some_iff.mp ex).1]; exact ex, rfl⟩
    · cases e'
  · rcases key e with ⟨h, e1'⟩ | h
    · obtain ⟨v, e2, q⟩ := a.ok i s e1'
      rw [st h e2] at e1; cases e1
      rcases a.kind i s e1' with ⟨d, z⟩ | ⟨o, z⟩
      · subst z; cases hs
      · subst z; exact .inr ⟨i, o, e1', e2⟩
    · subst h; cases hs
theorem call_end {F H : Hp} {vs : List V} {ss : DS} (a : ArgsIn K mg F H vs ss) {F' H' : Hp} {σ' : St} {s' : DS} (ok : okOuts ss s' = true) (r : Rel K mg (callB F H vs ss) F' H' σ' s') : CallEnd K mg F H vs ss s' F' H' := by
  have hio : ∀ {i : Nat} {x : Own} {p : Addr}, ss[i]? = some (.ow true x) → vs[i]? = some (.ref p) → (callB F H vs ss).io i = some p := fun {i x p} e1 e2 => by
    show (match ss[i]? with
      | some (.ow true _) => match vs[i]? with
        | some (.ref p) => some p
        | _ => none
      | _ => none) = some p
    rw [e1, e2]
  have at_io : ∀ {i : Nat} {x : Own} {p : Addr}, ss[i]? = some (.ow true x) → vs[i]? = some (.ref p) → ∃ x' o, s'[i]? = some (.ow true x') ∧ F' p = none ∧ H' p = some o ∧ OwnObj K mg F' x' o := fun {i x p} e1 e2 => by
    obtain ⟨y, ey⟩ := okOuts_at ok e1
    obtain ⟨p2, e3, e4⟩ := r.pin i _ ey rfl
    rw [hio e1 e2] at e3; cases e3
    obtain ⟨p3, o, e5, f, h, q⟩ := r.owned ey
    rw [e4] at e5; cases e5
    exact ⟨y, o, ey, f, h, q⟩
  refine ⟨r.ext, r.sub, fun b o h => ?_, r.frame, fun i x e => ?_⟩
  · rcases r.new b o h with h1 | h1 | h1 | ⟨i, x, e1, e2⟩
    · exact .inl h1
    · exact .inr (.inl h1)
    · exact .inr (.inr h1)
    · obtain ⟨_, _, _, f, _⟩ := at_io e1 e2
      rw [h] at f; cases f
  · obtain ⟨v, e2, p, o, ev, _⟩ := a.ok i _ e
    subst ev
    obtain ⟨x', o', h1, h2, h3, h4⟩ := at_io e e2
    exact ⟨x', p, o', h1, e2, h2, h3, h4⟩
/-- THE RULE: a def of the text does what its body's plain function does -/
theorem fn_D {x qual : Str} {st : Stmt} {f : Addr} {fd : FuncData} {N ps : List Str} {k : Nat} {g : DS → Res Fl} (Fn : Fun K x qual st f fd) (S : FnScope N ps (defScope st))
    (body : ∀ (cdv : Value) (A : Around) (outer : List Env) (s : Shared) (H : Hp) (E : XK), Ctx k (cxOf (L2.CX P w) P w K mg base N qual (defScope st) f cdv A outer s H E) (fun cls d _ H' => E cls d H') →
      DSs (cxOf (L2.CX P w) P w K mg base N qual (defScope st) f cdv A outer s H E) (fun cls d _ H' => E cls d H') (defBody st) g) :
    FnOk P w K mg base (L2.CX P w) (k + 1) f fd ps (spD K mg ps.length (fnM N.length g)) := by
  refine Fn.okX S (fun vs H Q E h => h.choose_spec.choose_spec.1) fun cdv A outer s H vs Q E hr h => ?_
  obtain ⟨F, ss, hn, hF, a, p⟩ := h
  refine ⟨_, body cdv A outer s H E ⟨hr, takes_of rfl rfl rfl rfl, passes_of rfl, rfl⟩, callB F H vs ss, F, ss ++ List.replicate (N.length - ss.length) Slot.no, rel_start (N := N) hF a ?_, ?_⟩
  · have := congrArg List.length S.pre
    rw [List.length_take] at this
    have h2 : vs.length = ps.length := hn
    omega
  · unfold fnM at p
    revert p
    cases g (ss ++ List.replicate (N.length - ss.length) .no) with
    | bad => exact fun p => p
    | ex x s' =>
      intro p σ' cls dd F' H' r sm ex
      dsimp only at p
      cases ok : okOuts ss s' with
      | false => rw [ok] at p; exact p.elim
      | true =>
        rw [ok] at p
        exact p cls dd F' H' (call_end a ok r) ex
    | ok fl s' =>
      cases fl with
      | nx =>
        intro p σ' F' H' r sm
        dsimp only at p
        cases ok : okOuts ss s' with
        | false => rw [ok] at p; exact p.elim
        | true =>
          rw [ok] at p
          exact p .non F' H' (call_end a ok r) Rep.non
      | rt d =>
        intro p v σ' F' H' r sm q
        dsimp only at p
        cases ok : okOuts ss s' with
        | false => rw [ok] at p; exact p.elim
        | true =>
          rw [ok] at p
          exact p v F' H' (call_end a ok r) q
      | bk => exact fun p => p.elim
      | ct => exact fun p => p.elim
end
/-! ### a call's slots -/
def argSlot (s : DS) : Ar → Option Slot
  | .v d => some (.sh d)
  | .s i => match s[i]? with
    | some (.sh d) => some (.sh d)
    | some (.ow _ x) => some (.ow true x)
    | _ => none
def argSlots (s : DS) : List Ar → Option DS
  | [] => some []
  | a :: as => match argSlot s a, argSlots s as with
    | some x, some xs => some (x :: xs)
    | _, _ => none
/-- slot i is owned and stands among as -/
def usesOw (s : DS) (i : Nat) (as : List Ar) : Bool := as.any fun a => match a with
  | .s j => i == j
  | _ => false
/-- no owned slot twice -/
def ownOnce (s : DS) : List Ar → Bool
  | [] => true
  | .v _ :: as => ownOnce s as
  | .s i :: as => (match s[i]? with
    | some (.ow _ _) => !usesOw s i as
    | _ => true) && ownOnce s as
/-- the owned things as the call left them -/
def putOuts : DS → List Ar → DS → Option DS
  | s, [], _ => some s
  | s, .v _ :: as, _ :: os => putOuts s as os
  | s, .s i :: as, o :: os => match s[i]? with
    | some (.ow io _) => match o with
      | .ow true x' => putOuts (s.set i (.ow io x')) as os
      | _ => none
    | _ => putOuts s as os
  | _, _ :: _, [] => none
def callM (m : DS → Res D) (as : List Ar) : DS → Res D := fun s => match argSlots s as with
  | none => .bad
  | some ss => if ownOnce s as then (match m ss with
    | .ok d outs => match putOuts s as outs with
      | some s' => .ok d s'
      | none => .bad
    | .ex x outs => match putOuts s as outs with
      | some s' => .ex x s'
      | none => .bad
    | .bad => .bad) else .bad
def eFn (m : DS → Res D) (f : DS → Res (List Ar)) : DS → Res D := fun s => (f s).bind fun as s => callM m as s
section
variable {K : PySem.W.Frag} {mg : Str → Option Value} {B : Base} {F H : Hp} {σ : St} {s : DS}
theorem argSlots_at : ∀ {as : List Ar} {ss : DS} {k : Nat} {a : Ar}, argSlots s as = some ss → as[k]? = some a → ∃ x, ss[k]? = some x ∧ argSlot s a = some x
  | [], _, _, _, _, e => by simp at e
  | a :: as, ss, k, b, h, e => by
    unfold argSlots at h
    split at h
    · rename_i x xs e1 e2
      cases h
      cases k with
      | zero => simp at e; subst e; exact ⟨x, rfl, e1⟩
      | succ k => simpa using argSlots_at e2 (by simpa using e)
    · cases h
theorem argSlots_len : ∀ {as : List Ar} {ss : DS}, argSlots s as = some ss → ss.length = as.length
  | [], ss, h => by cases h; rfl
  | a :: as, ss, h => by
    unfold argSlots at h
    split at h
    · rename_i x xs e1 e2
      cases h
      simp [argSlots_len e2]
    · cases h
theorem ArsOk.len : ∀ {as : List Ar} {vs : List V}, ArsOk K mg F σ as vs → vs.length = as.length
  | [], vs, h => by rw [show vs = [] from h]; rfl
  | a :: as, vs, ⟨v, r, e, _, t⟩ => by subst e; simp [ArsOk.len t]
theorem ArsOk.get : ∀ {as : List Ar} {vs : List V} {k : Nat} {a : Ar}, ArsOk K mg F σ as vs → as[k]? = some a → ∃ v, vs[k]? = some v ∧ ArOk K mg F σ a v
  | [], vs, k, a, h, e => by simp at e
  | b :: as, vs, k, a, ⟨v, r, e1, h, t⟩, e => by
    subst e1
    cases k with
    | zero => simp at e; subst e; exact ⟨v, rfl, h⟩
    | succ k => simpa using ArsOk.get t (by simpa using e)
theorem usesOw_of {i k : Nat} : ∀ {as : List Ar}, as[k]? = some (.s i) → usesOw s i as = true := fun {as} e => List.any_eq_true.mpr ⟨.s i, List.mem_of_getElem? e, by simp⟩
theorem ownOnce_at : ∀ {as : List Ar} {i k l : Nat} {io : Bool} {x : Own}, ownOnce s as = true → s[i]? = some (.ow io x) → as[k]? = some (.s i) → as[l]? = some (.s i) → k = l
  | [], _, _, _, _, _, _, _, e, _ => by simp at e
  | a :: as, i, 0, 0, _, _, _, _, _, _ => rfl
  | a :: as, i, 0, l + 1, io, x, h, hx, e1, e2 => by
    simp at e1
    subst e1
    simp only [ownOnce, hx, Bool.and_eq_true, Bool.not_eq_true'] at h
    have := usesOw_of (s := s) (show as[l]? = some (.s i) by simpa using e2)
    rw [h.1] at this; cases this
  | a :: as, i, k + 1, 0, io, x, h, hx, e1, e2 => by
    simp at e2
    subst e2
    simp only [ownOnce, hx, Bool.and_eq_true, Bool.not_eq_true'] at h
    have := usesOw_of (s := s) (show as[k]? = some (.s i) by simpa using e1)
    rw [h.1] at this; cases this
  | a :: as, i, k + 1, l + 1, io, x, h, hx, e1, e2 => by
    have h' : ownOnce s as = true := by
      cases a with
      | v d => exact h
      | s j => simp only [ownOnce, Bool.and_eq_true] at h; exact h.2
    rw [ownOnce_at h' hx (show as[k]? = some (.s i) by simpa using e1) (show as[l]? = some (.s i) by simpa using e2)]
theorem args_in (r : Rel K mg B F H σ s) {as : List Ar} {vs : List V} {ss : DS} (q : ArsOk K mg F σ as vs) (e : argSlots s as = some ss) (once : ownOnce s as = true) : ArgsIn K mg F H vs ss := by
  have hl := argSlots_len e
  have at_k : ∀ {k : Nat} {x : Slot}, ss[k]? = some x → ∃ a v, as[k]? = some a ∧ argSlot s a = some x ∧ vs[k]? = some v ∧ ArOk K mg F σ a v := fun {k x} ek => by
    have hk : k < as.length := by
      have := (List.getElem?_eq_some_iff.mp ek).1
      omega
    obtain ⟨x', e1, e2⟩ := argSlots_at e (List.getElem?_eq_getElem hk)
    rw [ek] at e1; cases e1
    obtain ⟨v, e3, e4⟩ := q.get (List.getElem?_eq_getElem hk)
    exact ⟨as[k], v, List.getElem?_eq_getElem hk, e2, e3, e4⟩
  refine ⟨by rw [q.len, hl], fun k x ek => ?_, fun k x ek => ?_, fun i j x y p hij ex ey e1 e2 => ?_⟩
  · obtain ⟨a, v, _, e2, e3, e4⟩ := at_k ek
    refine ⟨v, e3, ?_⟩
    cases a with
    | v d => cases e2; exact e4
    | s i =>
      have e4 : σ[i]? = some (some v) := e4
      unfold argSlot at e2
      dsimp only at e2
      split at e2
      · rename_i d e5
        cases e2
        obtain ⟨v', e6, q6⟩ := r.shared e5
        rw [e4] at e6; cases e6
        exact q6
      · rename_i io o e5
        cases e2
        obtain ⟨p, ob, e6, f, h, q6⟩ := r.owned e5
        rw [e4] at e6; cases e6
        exact ⟨p, ob, rfl, f, h, q6⟩
      · cases e2
  · obtain ⟨a, v, _, e2, e3, e4⟩ := at_k ek
    cases a with
    | v d => cases e2; exact .inl ⟨d, rfl⟩
    | s i =>
      unfold argSlot at e2
      dsimp only at e2
      split at e2
      · cases e2; exact .inl ⟨_, rfl⟩
      · cases e2; exact .inr ⟨_, rfl⟩
      · cases e2
  · obtain ⟨a, v, ea, ea2, ev, aok⟩ := at_k ex
    obtain ⟨b, u, eb, eb2, eu, bok⟩ := at_k ey
    rw [ev] at e1; cases e1
    rw [eu] at e2; cases e2
    cases a with
    | v d => cases ea2
    | s i' =>
      cases b with
      | v d => cases eb2
      | s j' =>
        unfold argSlot at ea2 eb2
        dsimp only at ea2 eb2
        split at ea2
        · cases ea2
        · rename_i io o e5
          split at eb2
          · cases eb2
          · rename_i io2 o2 e6
            by_cases z : i' = j'
            · subst z
              exact hij (ownOnce_at once e5 ea eb)
            · exact r.apart i' j' _ _ p z e5 e6 rfl rfl aok bok
          · cases eb2
        · cases ea2
theorem putOuts_at : ∀ {as : List Ar} {s outs s' : DS}, putOuts s as outs = some s' → s'.length = s.length ∧ ∀ (i : Nat) (y : Slot), s'[i]? = some y →
    (∃ (io : Bool) (x x' : Own) (k : Nat), as[k]? = some (Ar.s i) ∧ (∃ io2 x2, s[i]? = some (.ow io2 x2) ∧ io2 = io) ∧ outs[k]? = some (.ow true x') ∧ y = .ow io x' ∧ x = x) ∨ (s[i]? = some y ∧ (y.isOw = true → ∀ k : Nat, as[k]? ≠ some (Ar.s i)))
  | [], s, outs, s', h => by
    have h : some s = some s' := by simpa [putOuts] using h
    cases h
    exact ⟨rfl, fun i y e => .inr ⟨e, fun _ k z => by simp at z⟩⟩
  | .v d :: as, s, [], s', h => by cases h
  | .v d :: as, s, o :: outs, s', h => by
    obtain ⟨hl, hi⟩ := putOuts_at (show putOuts s as outs = some s' from h)
    refine ⟨hl, fun i y e => ?_⟩
    rcases hi i y e with ⟨io, x, x', k, e1, e2, e3, e4⟩ | ⟨e1, e2⟩
    · exact .inl ⟨io, x, x', k + 1, by simpa using e1, e2, by simpa using e3, e4⟩
    · refine .inr ⟨e1, fun hy k z => ?_⟩
      cases k with
      | zero => simp at z
      | succ k => exact e2 hy k (by simpa using z)
  | .s j :: as, s, [], s', h => by cases h
  | .s j :: as, s, o :: outs, s', h => by
    unfold putOuts at h
    split at h
    · rename_i io x0 ej
      split at h
      · rename_i x' 
        obtain ⟨hl, hi⟩ := putOuts_at h
        refine ⟨by rw [hl, List.length_set], fun i y e => ?_⟩
        rcases hi i y e with ⟨io', x, x'', k, e1, ⟨io2, x2, e2, e2'⟩, e3, e4⟩ | ⟨e1, e2⟩
        · refine .inl ⟨io', x, x'', k + 1, by simpa using e1, ?_, by simpa using e3, e4⟩
          rcases set_key e2 with ⟨rfl, e5, _⟩ | ⟨_, e5⟩
          · cases e5; exact ⟨_, _, ej, e2'⟩
          · exact ⟨_, _, e5, e2'⟩
        · rcases set_key e1 with ⟨rfl, rfl, _⟩ | ⟨z, e5⟩
          · exact .inl ⟨io, x', x', 0, rfl, ⟨_, _, ej, rfl⟩, rfl, rfl, rfl⟩
          · refine .inr ⟨e5, fun hy k zk => ?_⟩
            cases k with
            | zero => simp at zk; exact z zk.symm
            | succ k => exact e2 hy k (by simpa using zk)
      · cases h
    · rename_i hno
      obtain ⟨hl, hi⟩ := putOuts_at h
      refine ⟨hl, fun i y e => ?_⟩
      rcases hi i y e with ⟨io, x, x', k, e1, e2, e3, e4⟩ | ⟨e1, e2⟩
      · exact .inl ⟨io, x, x', k + 1, by simpa using e1, e2, by simpa using e3, e4⟩
      · refine .inr ⟨e1, fun hy k z => ?_⟩
        cases k with
        | zero =>
          simp at z
          subst z
          cases y with
          | ow io x => exact hno io x e1
          | _ => cases hy
        | succ k => exact e2 hy k (by simpa using z)
end
end DL

set_option autoImplicit true
/-! D-layer, part j: calls of defs, methods, classes. -/
namespace DL
open PySem PySem.Spec PyProof.Rows L2
set_option autoImplicit false
section
variable {K : PySem.W.Frag} {mg : Str → Option Value} {B : Base} {F H F' H' : Hp} {σ : St} {s s' : DS}
theorem rel_after (r : Rel K mg B F H σ s) {as : List Ar} {vs : List V} {ss outs : DS} (q : ArsOk K mg F σ as vs) (e : argSlots s as = some ss) (once : ownOnce s as = true) (c : CallEnd K mg F H vs ss outs F' H') (ep : putOuts s as outs = some s') :
    Rel K mg B F' H' σ s' := by
  obtain ⟨hl, hi⟩ := putOuts_at ep
  -- an owned slot among the arguments
  have inA : ∀ {i k : Nat} {io : Bool} {x : Own}, as[k]? = some (.s i) → s[i]? = some (.ow io x) → ss[k]? = some (.ow true x) ∧ ∃ p, σ[i]? = some (some (.ref p)) ∧ vs[k]? = some (.ref p) := fun {i k io x} ek ex => by
    obtain ⟨y, e1, e2⟩ := argSlots_at e ek
    unfold argSlot at e2
    dsimp only at e2
    rw [ex] at e2
    cases e2
    obtain ⟨p, o, e3, _⟩ := r.owned ex
    obtain ⟨v, e4, e5⟩ := q.get ek
    have e5 : σ[i]? = some (some v) := e5
    rw [e3] at e5; cases e5
    exact ⟨e1, p, e3, e4⟩
  -- whose object is a caller's argument
  have ofA : ∀ {a : Addr}, ioA vs ss a → ∃ (i k : Nat) (io : Bool) (x : Own), as[k]? = some (.s i) ∧ s[i]? = some (.ow io x) ∧ σ[i]? = some (some (.ref a)) := fun {a} ⟨k, x, e1, e2⟩ => by
    have hk : k < as.length := by
      have := (List.getElem?_eq_some_iff.mp e1).1
      rw [argSlots_len e] at this
      exact this
    obtain ⟨y, e3, e4⟩ := argSlots_at e (List.getElem?_eq_getElem hk)
    rw [e1] at e3; cases e3
    obtain ⟨v, e5, e6⟩ := q.get (List.getElem?_eq_getElem hk)
    rw [e2] at e5; cases e5
    cases ea : as[k] with
    | v d => rw [ea] at e4; cases e4
    | s i =>
      rw [ea] at e4 e6
      unfold argSlot at e4
      dsimp only at e4
      split at e4
      · cases e4
      · rename_i io o e7
        cases e4
        exact ⟨i, k, io, x, by rw [List.getElem?_eq_getElem hk, ea], e7, e6⟩
      · cases e4
  have was : ∀ {i : Nat} {y : Slot}, s'[i]? = some y → ∃ y0, s[i]? = some y0 ∧ y0.isOw = y.isOw ∧ y0.pin = y.pin := fun {i y} ey => by
    rcases hi i y ey with ⟨io, x, x', k, e1, ⟨io2, x2, e2, e2'⟩, e3, rfl, _⟩ | ⟨e1, _⟩
    · subst e2'; exact ⟨_, e2, rfl, rfl⟩
    · exact ⟨y, e1, rfl, rfl⟩
  refine ⟨c.sub, r.ext.trans c.ext, fun a o h => ?_, fun a o h n => ?_, by rw [r.len, hl], fun i y ey => ?_, fun i j x y p hij ex ey ox oy e1 e2 => ?_, fun i y ey hp => ?_, fun i p ei => ?_, fun i y p ey hy e1 => ?_⟩
  · rcases c.new a o h with h1 | h1 | h1
    · exact .inl h1
    · exact r.new a o h1
    · exact .inr (.inr (r.fresh0 h1))
  · refine c.frame a o (r.frame a o h n) fun z => ?_
    obtain ⟨i, k, io, x, _, e2, e3⟩ := ofA z
    rcases r.onew i _ a e2 rfl e3 with h0 | h0
    · rw [h0] at h; cases h
    · exact n h0
  · rcases hi i y ey with ⟨io, x, x', k, e1, ⟨io2, x2, e2, e2'⟩, e3, rfl, _⟩ | ⟨e1, e2⟩
    · obtain ⟨e4, p, e5, e6⟩ := inA e1 e2
      obtain ⟨x3, p3, o, e7, e8, f, h, qq⟩ := c.out k x2 e4
      rw [e3] at e7; cases e7
      rw [e6] at e8; cases e8
      exact .inr ⟨_, e5, p, o, rfl, f, h, qq⟩
    · refine (r.slot i y e1).imp id fun ⟨v, e3, q3⟩ => ⟨v, e3, ?_⟩
      cases y with
      | no => trivial
      | sh d => exact Rep.keeps (Same.keeps c.ext) d v q3
      | lk => trivial
      | ow io x =>
        obtain ⟨p, o, ev, f, h, q3⟩ := q3
        subst ev
        have hn : ¬ ioA vs ss p := fun z => by
          obtain ⟨j, k, io2, x2, e4, e5, e6⟩ := ofA z
          by_cases w : i = j
          · subst w; exact e2 rfl k e4
          · exact r.apart i j _ _ p w e1 e5 rfl rfl e3 e6
        have h' := c.frame p o h hn
        refine ⟨p, o, rfl, ?_, h', q3.keeps (Same.keeps c.ext)⟩
        cases z : F' p with
        | none => rfl
        | some u =>
          rcases c.new p u z with ⟨xs, rfl⟩ | w | w
          · rw [c.sub _ _ z] at h'; cases h'
            exact q3.notTup.elim
          · rw [f] at w; cases w
          · rw [h] at w; cases w
  · obtain ⟨x0, ex0, ox0, _⟩ := was ex
    obtain ⟨y0, ey0, oy0, _⟩ := was ey
    exact r.apart i j x0 y0 p hij ex0 ey0 (ox0.trans ox) (oy0.trans oy) e1 e2
  · obtain ⟨y0, ey0, _, hp0⟩ := was ey
    exact r.pin i y0 ey0 (hp0.trans hp)
  · obtain ⟨y, ey, hy⟩ := r.io i p ei
    have hlt : i < s'.length := by rw [hl]; exact (List.getElem?_eq_some_iff.mp ey).1
    obtain ⟨y0, ey0, _, hp0⟩ := was (List.getElem?_eq_getElem hlt)
    rw [ey] at ey0; cases ey0
    exact ⟨_, List.getElem?_eq_getElem hlt, hp0.symm.trans hy⟩
  · obtain ⟨y0, ey0, oy0, _⟩ := was ey
    exact r.onew i y0 p ey0 (oy0.trans hy) e1
/-- from the plain call to the promise's words -/
theorem call_read {m : DS → Res D} {n : Nat} {W : WX} {Q : VK} (r : Rel K mg B F H σ s) {as : List Ar} {vs : List V} (q : ArsOk K mg F σ as vs) (hn : vs.length = n) {F0 : Hp} (sm : Same F0 F)
    (p : Post B F0 (callM m as s) (fun d ds' => ∀ v F' H', Rel K mg B F' H' σ ds' → Same F0 F' → Rep K mg F' d v → Q v H') (Raised K mg B F0 W σ)) : spD K mg n m vs H Q (WE W σ) := by
  unfold callM at p
  cases e : argSlots s as with
  | none => rw [e] at p; exact p.elim
  | some ss =>
    rw [e] at p
    dsimp only at p
    cases once : ownOnce s as with
    | false => rw [once] at p; exact p.elim
    | true =>
      rw [once, if_pos rfl] at p
      refine ⟨F, ss, hn, r.sub, args_in r q e once, ?_⟩
      revert p
      cases m ss with
      | bad => exact fun p => p
      | ok d outs =>
        dsimp only
        cases ep : putOuts s as outs with
        | none => exact fun p => p.elim
        | some s' => exact fun p v F' H' c rv => p v F' H' (rel_after r q e once c ep) (sm.trans c.ext) rv
      | ex x outs =>
        dsimp only
        cases ep : putOuts s as outs with
        | none => exact fun p => p.elim
        | some s' => exact fun p cls dd F' H' c ex => p cls dd F' H' (rel_after r q e once c ep) (sm.trans c.ext) ex
end
section
variable {X : Cx} {W : WX} {pos p : Pos} {e : Expr} {es : List Expr} {x : Str} {k j : Nat} {f : Addr} {fd : FuncData} {ps : List Str} {m : DS → Res D}
/-- what is known of a def that is called by its name -/
structure Def (X : Cx) (j : Nat) (x : Str) (ps : List Str) (m : DS → Res D) : Prop where
  ex : ∃ f fd, FnOk X.prog X.w X.K X.mg X.base (L2.CX X.prog X.w) j f fd ps (spD X.K X.mg ps.length m) ∧ X.mg x = some (.ref f) ∧ PySem.W.keepIn X.K (.ref f) = true ∧ Binds X.K fd ps []
theorem das_len {es : List Expr} {g : DS → Res (List Ar)} {s s' : DS} {as : List Ar} : True := trivial
/-- f(e, ..) -/
theorem de_fn {g : DS → Res (List Ar)} (C : Ctx k X W) (d : Def X j x ps m) (hj : j ≤ k) (ha : DAs X W (e :: es) g) (hlen : ∀ s as s', g s = .ok as s' → as.length = ps.length) (hg : Gl X x := by rfl) (hdb : (x == ("__debug__" : Str)) = false := by decide)
    (he : starEach (e :: es) X.env = (false, eval e X.env) :: starEach es X.env := by rfl) (hpl : (backTo pos (starEach es X.env)).any (·.1) = false := by rfl) : DE X W (.Call (.Name x p) (e :: es) [] pos) (eFn m g) := by
  obtain ⟨f, fd, F, hm, hk, hb⟩ := d.ex
  refine PE.imp (pe_callS F (C.room.mono hj) hg hm hk hb (fun σ => passAt C.tk σ) ha hdb he hpl) fun σ H Q ⟨B, F, ds, r, p⟩ => ⟨B, F, ds, r, ?_⟩
  unfold eFn at p
  revert p
  cases eg : g ds with
  | ok as s => exact fun p vs F' H' r' sm q => call_read r' q (by rw [q.len, hlen _ _ _ eg]) sm p
  | ex x s => exact fun p => p
  | bad => exact fun p => p
/-- a method of the class called c -/
structure MethD (X : Cx) (j : Nat) (c mn : Str) (ps : List Str) (m : DS → Res D) : Prop where
  ex : ∃ C f fd, X.mg c = some (.ref C) ∧ Cls X.K C ∧ Meth X.K C mn f ∧ FnOk X.prog X.w X.K X.mg X.base (L2.CX X.prog X.w) j f fd ps (spD X.K X.mg ps.length m) ∧ Binds X.K fd ps []
end
section
variable {X : Cx} {CX : CXT} {k : Nat} {f C : Addr} {fd : FuncData} {ps : List Str} {sp : Sp} {E : St → XK} {x m : Str} {p pos apos : Pos} {e o : Expr} {es : List Expr} {ta : TE} {t : TA}
/-- o.m(..), what is raised wished for at the slots -/
def tMethS (C : Addr) (m : Str) (sp : Sp) (E : St → XK) (ta : TE) (t : TA) : TE := fun σ H Q => ta σ H fun x H1 => ∃ a dx fs, x = .ref a ∧ H1 a = some (.ins C dx fs) ∧ fs.lookup m = none ∧
  t σ H1 fun vs H2 => sp (x :: vs) H2 Q (E σ)
theorem pe_methS' {pl : Sem Bool} (he : PE X o ta) (c : Cls X.K C) (hm : Meth X.K C m f) (F : FnOk X.prog X.w X.K X.mg X.base CX k f fd ps sp) (hr : Room k X.A) (hb : Binds X.K fd ps []) (hx : ∀ σ, PassesAt CX X σ (E σ)) (ha : PA X (e :: es) t)
    (hst : starEach (e :: es) X.env = (false, eval e X.env) :: starEach es X.env := by rfl) (hpl : (backTo pos (starEach es X.env)).any (·.1) = false := by rfl)
    (ht : eval (.Call (.Attribute o m apos) (e :: es) [] pos) X.env = (do
      let ov ← eval o X.env
      standAt apos.atName
      let (f, first) ← holding [ov] (getMethod ov m pl)
      callWith pos f first (backTo pos (starEach (e :: es) X.env)) (backToKw pos (keywordEach [] X.env))) := by rfl) :
    PE X (.Call (.Attribute o m apos) (e :: es) [] pos) (tMethS C m sp E ta t) := by
  refine ⟨fun pins s σ H Q I h => ?_⟩
  refine PySem.W.methodCall_KW (pl := pl) (thn (he.run pins s σ H _ I h) fun u s1 ⟨x, H1, I1, rx, a, dx, fs, ex, ea, l, q⟩ => ?_) ht
  subst ex
  obtain rfl : u = Value.ref a := rx
  refine getmeth_ok I1 ea c hm l ?_
  refine PySem.W.callWith_K (first := [.ref a]) (h₀ := X.base) I.ok.mod.kin hm.kp (thn (ha.run pos pins s1 σ H1 _ I1 q) fun us s2 ⟨vs, H2, I2, r, q2⟩ => ⟨I2.kIn, ?_⟩) hst hpl
  exact run_fnS (us := .ref a :: us) (vs := .ref a :: vs) F hr hb (hx σ) I2 (.cons rfl r) q2
theorem pe_methS0 {pl : Sem Bool} (he : PE X o ta) (c : Cls X.K C) (hm : Meth X.K C m f) (F : FnOk X.prog X.w X.K X.mg X.base CX k f fd ps sp) (hr : Room k X.A) (hb : Binds X.K fd ps []) (hx : ∀ σ, PassesAt CX X σ (E σ))
    (ht : eval (.Call (.Attribute o m apos) [] [] pos) X.env = (do
      let ov ← eval o X.env
      standAt apos.atName
      let (f, first) ← holding [ov] (getMethod ov m pl)
      callWith pos f first (backTo pos (starEach [] X.env)) (backToKw pos (keywordEach [] X.env))) := by rfl) :
    PE X (.Call (.Attribute o m apos) [] [] pos) (tMethS C m sp E ta tNil) := by
  refine ⟨fun pins s σ H Q I h => ?_⟩
  refine PySem.W.methodCall_KW (pl := pl) (thn (he.run pins s σ H _ I h) fun u s1 ⟨x, H1, I1, rx, a, dx, fs, ex, ea, l, q⟩ => ?_) ht
  subst ex
  obtain rfl : u = Value.ref a := rx
  refine getmeth_ok I1 ea c hm l ?_
  exact PySem.W.callWith_K0 (first := [.ref a]) I1.kIn hm.kp (run_fnS (us := [.ref a]) (vs := [.ref a]) F hr hb (hx σ) I1 (.cons rfl .nil) q)
/-- C(..) -/
def tMakeS (C : Addr) (sp : Sp) (E : St → XK) (t : TA) : TE := fun σ H Q => t σ H fun vs H1 => ∀ x dx, H1 x = none → H1 dx = none → dx ≠ x →
  sp (.ref x :: vs) (upd (upd H1 dx (.own x)) x (.ins C dx [])) (fun v H2 => v = .non ∧ Q (.ref x) H2) (E σ)
theorem run_makeS {pins : List (Addr × Obj)} {σ : St} {H : Hp} {s : Shared} {Q : VK} {us : List Value} {vs : List V} (M : Mk X.K C f) (F : FnOk X.prog X.w X.K X.mg X.base CX k f fd ps sp) (hr : Room (k + 1) X.A) (hb : Binds X.K fd ps [])
    (hx : PassesAt CX X σ (E σ)) (I : Inv X pins σ H s) (r : Vals vs us)
    (h : ∀ x dx, H x = none → H dx = none → dx ≠ x → sp (.ref x :: vs) (upd (upd H dx (.own x)) x (.ins C dx [])) (fun v H2 => v = .non ∧ Q (.ref x) H2) (E σ)) :
    wpAny (model X.prog X.w) X.A (call (.ref C) us) (EP X pins σ Q) X.xe s := by
  have hq := h (s.heap.objs.size + 1) s.heap.objs.size (I.hok.fresh (Nat.le_succ _)) (I.hok.fresh (Nat.le_refl _)) (Nat.ne_of_lt (Nat.lt_succ_self _))
  have I2 := Inv.made (C := C) I
  have r2 : Vals (V.ref (s.heap.objs.size + 1) :: vs) (Value.ref (s.heap.objs.size + 1) :: us) := .cons rfl r
  have hl : (Value.ref (s.heap.objs.size + 1) :: us).length = ps.length := by
    have e := r2.length
    rw [F.len _ _ _ _ hq] at e
    exact e.symm
  have b := hb _ (Value.ref (s.heap.objs.size + 1) :: us) I2.kIn (by rw [List.append_nil]; exact hl)
  rw [List.append_nil] at b
  refine wpAny_call (make_map (f := f) I.kIn M.makes M.init (beq_iff_eq.mp M.fn) (codeAny_mono (F.run _ X.stack _ _ ⟨Value.ref (s.heap.objs.size + 1) :: us, []⟩ (Value.ref (s.heap.objs.size + 1) :: us) _ _ (E σ) (hr.make C us [])
    (I2.env0.make C us []) b r2 hq) fun r s' hq' => ?_))
  cases r with
  | error e => exact hx pins _ _ e s' I2 hq'
  | ok fl =>
    cases fl with
    | ret u =>
      obtain ⟨v, H', I3, rv, ev, q3⟩ := I2.after hq'
      subst ev
      exact ⟨rv, ⟨V.ref (s.heap.objs.size + 1), H', I3, rfl, q3⟩⟩
    | next => exact False.elim hq'
    | brk => exact False.elim hq'
    | cont => exact False.elim hq'
theorem pe_makeS (M : Mk X.K C f) (F : FnOk X.prog X.w X.K X.mg X.base CX k f fd ps sp) (hr : Room (k + 1) X.A) (hg : Gl X x) (hm : X.mg x = some (.ref C)) (hb : Binds X.K fd ps []) (hx : ∀ σ, PassesAt CX X σ (E σ))
    (ha : PA X (e :: es) t) (hdb : (x == ("__debug__" : Str)) = false := by decide) (he : starEach (e :: es) X.env = (false, eval e X.env) :: starEach es X.env := by rfl) (hpl : (backTo pos (starEach es X.env)).any (·.1) = false := by rfl) :
    PE X (.Call (.Name x p) (e :: es) [] pos) (tMakeS C sp E t) := by
  refine ⟨fun pins s σ H Q I h => ?_⟩
  refine wpAny_Call_Name_kw (ld_glob I hg hm ?_ hdb)
  refine PySem.W.callWith_K (h₀ := X.base) I.ok.mod.kin M.kp (thn (ha.run pos pins s σ H _ I h) fun us s1 ⟨vs, H1, I1, r, q⟩ => ⟨I1.kIn, ?_⟩) he hpl
  exact run_makeS M F hr hb (hx σ) I1 r q
end
/-! ### their plain functions -/
/-- o.m(..) -/
def eMeth (c mn : Str) (m : DS → Res D) (f : DS → Res Ar) (g : DS → Res (List Ar)) : DS → Res D := fun s => (f s).bind fun a s => match a.d s with
  | some (.obj c' fs) => if c' = c ∧ fs.lookup mn = none then (g s).bind fun as s => callM m (a :: as) s else .bad
  | _ => .bad
/-- C(..): a new object, handed to __init__ -/
def nMake (c : Str) (m : DS → Res D) (g : DS → Res (List Ar)) : DS → Res Own := fun s => (g s).bind fun as s => match argSlots s as with
  | none => .bad
  | some ss => if ownOnce s as then (match m (.ow true (.o c []) :: ss) with
    | .ok .non (.ow true x :: outs) => match putOuts s as outs with
      | some s' => .ok x s'
      | none => .bad
    | .ok _ _ => .bad
    | .ex x (_ :: outs) => match putOuts s as outs with
      | some s' => .ex x s'
      | none => .bad
    | .ex x [] => .bad
    | .bad => .bad) else .bad
section
variable {X : Cx} {W : WX} {pos p apos : Pos} {e o : Expr} {es : List Expr} {x : Str} {k j : Nat} {ps : List Str} {m : DS → Res D}
theorem RepF.lookup {K : PySem.W.Frag} {mg : Str → Option Value} {F : Hp} : ∀ {fs : List (Str × D)} {ws : List (Str × V)} {n : Str}, RepF K mg F fs ws → (fs.lookup n = none → ws.lookup n = none) ∧ ∀ d, fs.lookup n = some d → ∃ v, ws.lookup n = some v ∧ Rep K mg F d v
  | [], ws, n, h => by unfold RepF at h; subst h; exact ⟨fun _ => rfl, fun d e => by cases e⟩
  | p :: fs, ws, n, h => by
    unfold RepF at h
    obtain ⟨v, r, e, h, t⟩ := h
    subst e
    by_cases z : (n == p.1) = true
    · refine ⟨fun e => ?_, fun d e => ?_⟩
      · rw [List.lookup_cons, z] at e; cases e
      · rw [List.lookup_cons, z] at e
        cases e
        exact ⟨v, by rw [List.lookup_cons, z], h⟩
    · have z : (n == p.1) = false := by simpa using z
      refine ⟨fun e => ?_, fun d e => ?_⟩
      · rw [List.lookup_cons, z] at e
        rw [List.lookup_cons, z]
        exact (RepF.lookup t).1 e
      · rw [List.lookup_cons, z] at e
        rw [List.lookup_cons, z]
        exact (RepF.lookup t).2 d e
theorem meth_read {c mn : Str} {C : Addr} (hc : X.mg c = some (.ref C)) {f : DS → Res Ar} {g : DS → Res (List Ar)} (hlen : ∀ s as s', g s = .ok as s' → as.length + 1 = ps.length) {σ : St} {H : Hp} {Q : VK} (h : tD X.K X.mg W (eMeth c mn m f g) σ H Q) :
    tMethS C mn (spD X.K X.mg ps.length m) (WE W) (tD1 X.K X.mg W f) (tDA X.K X.mg W g) σ H Q := by
  obtain ⟨B, F, ds, r, p⟩ := h
  refine ⟨B, F, ds, r, p.bind.mono (fun a s pp v F' H' r' sm q => ?_) fun _ _ h => h⟩
  cases ea : a.d s with
  | none => rw [ea] at pp; exact pp.elim
  | some d =>
    rw [ea] at pp
    cases d with
    | obj c' fs =>
      dsimp only at pp
      by_cases hcc : c' = c ∧ fs.lookup mn = none
      case neg => rw [if_neg hcc] at pp; exact pp.elim
      rw [if_pos hcc] at pp
      obtain ⟨rfl, hl⟩ := hcc
      obtain ⟨a', C', dx, ws, rfl, hm, hh, rf⟩ := q.brep r' ea
      rw [hc] at hm; cases hm
      refine ⟨a', dx, ws, rfl, hh, rf.lookup.1 hl, B, F', s, r', ?_⟩
      revert pp
      cases eg : g s with
      | ok as s2 => exact fun p vs F2 H2 r2 sm2 q2 => call_read r2 (as := a :: as) ⟨_, vs, rfl, q.keeps sm2, q2⟩ (by simp [q2.len, hlen _ _ _ eg]) (sm.trans sm2) p
      | ex x s2 => exact fun p => Raised.mono sm p
      | bad => exact fun p => p
    | _ => exact pp.elim
theorem de_meth {pl : Sem Bool} {c mn : Str} {f : DS → Res Ar} {g : DS → Res (List Ar)} (C : Ctx k X W) (d : MethD X j c mn ps m) (hj : j ≤ k) (ho : DA1 X W o f) (ha : DAs X W (e :: es) g) (hlen : ∀ s as s', g s = .ok as s' → as.length + 1 = ps.length)
    (hst : starEach (e :: es) X.env = (false, eval e X.env) :: starEach es X.env := by rfl) (hpl : (backTo pos (starEach es X.env)).any (·.1) = false := by rfl)
    (ht : eval (.Call (.Attribute o mn apos) (e :: es) [] pos) X.env = (do
      let ov ← eval o X.env
      standAt apos.atName
      let (f, first) ← holding [ov] (getMethod ov mn pl)
      callWith pos f first (backTo pos (starEach (e :: es) X.env)) (backToKw pos (keywordEach [] X.env))) := by rfl) :
    DE X W (.Call (.Attribute o mn apos) (e :: es) [] pos) (eMeth c mn m f g) := by
  obtain ⟨Ca, fa, fd, hc, cl, hm, F, hb⟩ := d.ex
  exact PE.imp (pe_methS' ho cl hm F (C.room.mono hj) hb (fun σ => passAt C.tk σ) ha hst hpl ht) fun σ H Q h => meth_read hc hlen h
theorem de_meth0 {pl : Sem Bool} {c mn : Str} {f : DS → Res Ar} (C : Ctx k X W) (d : MethD X j c mn ps m) (hj : j ≤ k) (ho : DA1 X W o f) (hlen : 1 = ps.length)
    (ht : eval (.Call (.Attribute o mn apos) [] [] pos) X.env = (do
      let ov ← eval o X.env
      standAt apos.atName
      let (f, first) ← holding [ov] (getMethod ov mn pl)
      callWith pos f first (backTo pos (starEach [] X.env)) (backToKw pos (keywordEach [] X.env))) := by rfl) :
    DE X W (.Call (.Attribute o mn apos) [] [] pos) (eMeth c mn m f asNil) := by
  obtain ⟨Ca, fa, fd, hc, cl, hm, F, hb⟩ := d.ex
  refine PE.imp (pe_methS0 ho cl hm F (C.room.mono hj) hb (fun σ => passAt C.tk σ) ht) fun σ H Q h => ?_
  have h2 := meth_read (X := X) (ps := ps) hc (g := asNil) (fun s as s' e => by cases e; exact hlen) h
  obtain ⟨B, F, ds, r, p⟩ := h2
  refine ⟨B, F, ds, r, p.mono (fun a s p v F' H' r' sm q => ?_) fun _ _ h => h⟩
  obtain ⟨a', dx, fs, e1, e2, e3, B2, F2, ds2, r2, p2⟩ := p v F' H' r' sm q
  exact ⟨a', dx, fs, e1, e2, e3, p2 [] F2 _ r2 (Same.refl _) rfl⟩
/-- a class whose objects are made by __init__ -/
structure MkD (X : Cx) (j : Nat) (c : Str) (ps : List Str) (m : DS → Res D) : Prop where
  ex : ∃ C f fd, X.mg c = some (.ref C) ∧ Mk X.K C f ∧ FnOk X.prog X.w X.K X.mg X.base (L2.CX X.prog X.w) j f fd ps (spD X.K X.mg ps.length m) ∧ Binds X.K fd ps []
theorem dn_make {g : DS → Res (List Ar)} (C : Ctx k X W) (d : MkD X j x ps m) (hj : j + 1 ≤ k) (ha : DAs X W (e :: es) g) (hlen : ∀ s as s', g s = .ok as s' → as.length + 1 = ps.length) (hg : Gl X x := by rfl) (hdb : (x == ("__debug__" : Str)) = false := by decide)
    (he : starEach (e :: es) X.env = (false, eval e X.env) :: starEach es X.env := by rfl) (hpl : (backTo pos (starEach es X.env)).any (·.1) = false := by rfl) : DN X W (.Call (.Name x p) (e :: es) [] pos) (nMake x m g) := by
  obtain ⟨Ca, fa, fd, hm, M, Fn, hb⟩ := d.ex
  refine PE.imp (pe_makeS M Fn (C.room.mono hj) hg hm hb (fun σ => passAt C.tk σ) ha hdb he hpl) fun σ H Q ⟨B, F, ds, r, p⟩ => ⟨B, F, ds, r, ?_⟩
  unfold nMake at p
  revert p
  cases eg : g ds with
  | ex x s => exact fun p => p
  | bad => exact fun p => p
  | ok as s =>
    intro p vs F' H' r' sm q x' dx hx hdx hne
    rw [Res.bind_ok] at p
    cases e1 : argSlots s as with
    | none => rw [e1] at p; exact p.elim
    | some ss =>
      rw [e1] at p
      dsimp only at p
      cases once : ownOnce s as with
      | false => rw [once] at p; exact p.elim
      | true =>
        rw [once, if_pos rfl] at p
        -- the heap with the new object
        have r1 : Rel X.K X.mg B F' (upd H' dx (.own x')) σ s := r'.allocH hdx
        have hx1 : (upd H' dx (.own x')) x' = none := by rw [upd_ne hne.symm]; exact hx
        obtain ⟨r2, hid⟩ := r1.newH (o := .ins Ca dx []) hx1 (fun _ z => by cases z)
        have ai := args_in r2 q e1 once
        have hl := ai.len
        have ain : ArgsIn X.K X.mg F' (upd (upd H' dx (.own x')) x' (.ins Ca dx [])) (.ref x' :: vs) (.ow true (.o x []) :: ss) := by
          refine ⟨by simp [hl], fun i y ey => ?_, fun i y ey => ?_, fun i j a b pa hij ea eb e2 e3 => ?_⟩
          · cases i with
            | zero =>
              simp at ey; subst ey
              exact ⟨.ref x', rfl, x', _, rfl, hid.f, hid.h, Ca, dx, [], hm, rfl, by unfold RepF; rfl⟩
            | succ i => simpa using ai.ok i y (by simpa using ey)
          · cases i with
            | zero => simp at ey; subst ey; exact .inr ⟨_, rfl⟩
            | succ i => exact ai.kind i y (by simpa using ey)
          · -- the new object is none of the others
            have fresh : ∀ (i : Nat) (a : Own) pa, ss[i]? = some (.ow true a) → vs[i]? = some (.ref pa) → pa ≠ x' := fun i a pa ea f2 z => by
              subst z
              have hk : i < as.length := by
                have := (List.getElem?_eq_some_iff.mp ea).1
                rw [argSlots_len e1] at this
                exact this
              obtain ⟨y, e4, e5⟩ := argSlots_at e1 (List.getElem?_eq_getElem hk)
              rw [ea] at e4; cases e4
              obtain ⟨v, e6, e7⟩ := q.get (List.getElem?_eq_getElem hk)
              rw [f2] at e6; cases e6
              cases es : as[i] with
              | v d => rw [es] at e5; cases e5
              | s jj =>
                rw [es] at e5 e7
                unfold argSlot at e5
                dsimp only at e5
                split at e5
                · cases e5
                · rename_i io oo e8
                  exact hid.no jj _ e8 rfl e7
                · cases e5
            cases i with
            | zero =>
              cases j with
              | zero => exact hij rfl
              | succ j =>
                simp at e2; subst e2
                exact fresh j b x' (by simpa using eb) (by simpa using e3) rfl
            | succ i =>
              cases j with
              | zero =>
                simp at e3; subst e3
                exact fresh i a x' (by simpa using ea) (by simpa using e2) rfl
              | succ j => exact ai.apart i j a b pa (by omega) (by simpa using ea) (by simpa using eb) (by simpa using e2) (by simpa using e3)
        have hn : (V.ref x' :: vs).length = ps.length := by simp [q.len, hlen _ _ _ eg]
        refine ⟨F', _, hn, r2.sub, ain, ?_⟩
        -- the callee's end is an end over the others, the new object aside
        have sub_end : ∀ {outs : DS} {y : Slot} {F2 H2 : Hp}, CallEnd X.K X.mg F' (upd (upd H' dx (.own x')) x' (.ins Ca dx [])) (.ref x' :: vs) (.ow true (.o x []) :: ss) (y :: outs) F2 H2 →
            ∃ xo o2, y = .ow true xo ∧ F2 x' = none ∧ H2 x' = some o2 ∧ OwnObj X.K X.mg F2 xo o2 ∧ ∀ s', putOuts s as outs = some s' → Rel X.K X.mg B F2 H2 σ s' ∧ (B.H0 x' = none ∨ B.ow x') ∧ ∀ (jj : Nat) yy, s'[jj]? = some yy → yy.isOw = true → σ[jj]? ≠ some (some (.ref x')) := fun {outs y F2 H2} ce => by
          obtain ⟨xo, pa, o2, h1, h2, h3, h4, h5⟩ := ce.out 0 _ rfl
          simp at h1 h2
          subst h1; subst h2
          refine ⟨xo, o2, rfl, h3, h4, h5, fun s' ep => ?_⟩
          have h0 : B.H0 x' = none ∨ B.ow x' := r'.fresh0 hx
          have no' : ∀ (jj : Nat) yy, s'[jj]? = some yy → yy.isOw = true → σ[jj]? ≠ some (some (.ref x')) := fun jj yy ey hy ez => by
            obtain ⟨_, hi⟩ := putOuts_at ep
            rcases hi jj yy ey with ⟨io, a, a', kk, g1, ⟨io2, x2, g2, g2'⟩, g3, g4, _⟩ | ⟨g1, _⟩
            · exact hid.no jj _ g2 rfl ez
            · exact hid.no jj yy g1 hy ez
          -- as if the callee had begun with the object hidden
          have rh := r2.hide hid
          have ce2 : CallEnd X.K X.mg F' (upd (upd H' dx (.own x')) x' (.ins Ca dx [])) vs ss outs F2 (upd H2 x' (.ins Ca dx [])) := by
            refine ⟨ce.ext, fun a u ea => ?_, ce.new, fun a u ea hn => ?_, fun i xx ei => ?_⟩
            · have ne : a ≠ x' := fun z => by rw [z, h3] at ea; cases ea
              rw [upd_ne ne]; exact ce.sub a u ea
            · by_cases z : a = x'
              · subst z; rw [upd_same] at ea ⊢; exact ea
              · rw [upd_ne z]
                refine ce.frame a u ea fun w => ?_
                obtain ⟨i, xx, w1, w2⟩ := w
                cases i with
                | zero => simp at w2; exact z w2.symm
                | succ i => exact hn ⟨i, xx, by simpa using w1, by simpa using w2⟩
            · obtain ⟨a', pa, ob, g1, g2, g3, g4, g5⟩ := ce.out (i + 1) xx (by simpa using ei)
              have ne : pa ≠ x' := fun z => by
                subst z
                exact ain.apart 0 (i + 1) _ _ pa (by omega) rfl (by simpa using ei) rfl g2
              exact ⟨a', pa, ob, by simpa using g1, by simpa using g2, g3, by rw [upd_ne ne]; exact g4, g5⟩
          have ra := rel_after rh q e1 once ce2 ep
          obtain ⟨rb, hidb⟩ := r2.unhide hid ra
          -- the object as it is now
          obtain ⟨rc, _⟩ := rb.writeH (o' := o2) hidb (fun xs z => by subst z; exact h5.notTup)
          have eH : upd (upd H2 x' (.ins Ca dx [])) x' o2 = H2 := by rw [upd_upd]; exact upd_self h4
          rw [eH] at rc
          exact ⟨rc, h0, no'⟩
        revert p
        cases em : m (.ow true (.o x []) :: ss) with
        | bad => exact fun p => p
        | ok d outs =>
          cases outs with
          | nil =>
            cases d with
            | non => exact fun p => p.elim
            | _ => exact fun p => p.elim
          | cons y outs =>
            cases d with
            | non =>
              cases y with
              | ow io xo =>
                cases io with
                | true =>
                  dsimp only
                  cases ep : putOuts s as outs with
                  | none => exact fun p => p.elim
                  | some s' =>
                    intro p v F2 H2 ce rv
                    obtain ⟨xo', o2, e5, h3, h4, h5, go⟩ := sub_end ce
                    cases e5
                    obtain ⟨rc, h0, no'⟩ := go s' ep
                    exact ⟨Rep.non_ rv, p x' o2 F2 H2 rc (sm.trans ce.ext) h3 h4 h5 h0 no'⟩
                | false => exact fun p => p.elim
              | _ => exact fun p => p.elim
            | _ => exact fun p => p.elim
        | ex xx outs =>
          cases outs with
          | nil => exact fun p => p.elim
          | cons y outs =>
            dsimp only
            cases ep : putOuts s as outs with
            | none => exact fun p => p.elim
            | some s' =>
              intro p cls dd F2 H2 ce ex
              obtain ⟨xo', o2, e5, h3, h4, h5, go⟩ := sub_end ce
              obtain ⟨rc, h0, no'⟩ := go s' ep
              exact p cls dd F2 H2 rc (sm.trans ce.ext) ex
end
end DL

set_option autoImplicit true
/-! D-layer, part k: operations on data. -/
namespace DL
open PySem PySem.Spec PyProof.Rows L2
set_option autoImplicit false
/-! ### ints -/
def MulOk (i j : Int) : Prop := i.natAbs.log2 + j.natAbs.log2 < 100000000
instance (i j : Int) : Decidable (MulOk i j) := by unfold MulOk; infer_instance
theorem MulOk.ok {i j : Int} (h : MulOk i j) : IntMulOk i j := by
  have b : ∀ x : Int, Builtin.Int.intBits x ≤ x.natAbs.log2 + 1 := fun x => by
    unfold Builtin.Int.intBits
    split <;> omega
  have h1 := b i
  have h2 := b j
  have h3 : i.natAbs.log2 + j.natAbs.log2 < 100000000 := h
  have e : bitsLine = 134217728 := by decide
  unfold IntMulOk
  intro z
  rw [Bool.and_eq_true] at z
  have z2 := z.2
  unfold Builtin.Int.intTooBig at z2
  have z3 := of_decide_eq_true z2
  rw [e] at z3
  omega
def DivOk (i j : Int) : Prop := j ≠ 0 ∧ Builtin.divisionGoesByPylong i j = false
instance (i j : Int) : Decidable (DivOk i j) := by unfold DivOk; infer_instance
def PowOk (i j : Int) : Prop := 0 ≤ j ∧ j ≤ 1000000 ∧ i.natAbs < 2 ^ 64
instance (i j : Int) : Decidable (PowOk i j) := by unfold PowOk; infer_instance
section
variable {X : Cx} {K : PySem.W.Frag} {mg : Str → Option Value}
theorem op_mulX : OpR X (binaryOp .Mult) (rI MulOk fun i j => .int (i * j)) := opI fun _ _ _ _ _ _ _ hc q => mul_int q (MulOk.ok hc)
theorem op_divX : OpR X (binaryOp .FloorDiv) (rI DivOk fun i j => .int (i.fdiv j)) := opI fun i j _ _ _ _ _ hc q => floordiv_int hc.1 q (.inl hc.2)
def sizeOk (n : Nat) : Prop := n ≤ sizeLine
instance (n : Nat) : Decidable (sizeOk n) := by unfold sizeOk; infer_instance
/-! ### + -/
def addD : D → D → Option D
  | .int a, .int b => some (.int (a + b))
  | .str a, .str b => if sizeOk (a.length + b.length) then some (.str (a ++ b)) else none
  | .tup a, .tup b => if sizeOk (a.length + b.length) then some (.tup (a ++ b)) else none
  | .lst a, .lst b => if sizeOk (a.length + b.length) then some (.lst (a ++ b)) else none
  | _, _ => none
abbrev rAddD (K : PySem.W.Frag) : R2 := fun x y H Q => (rI0 fun i j => .int (i + j)) x y H Q ∨ (fun x y H Q => ∃ i j, x = .str i ∧ y = .str j ∧ i.length + j.length ≤ sizeLine ∧ Q (.str (i ++ j)) H) x y H Q ∨ rCatA K x y H Q ∨ rCat x y H Q
theorem op_addD : OpR X (binaryOp .Add) (rAddD X.K) := op_add.or (op_add_str.or (op_catA.or op_cat))
theorem s_addD : OpS2 K mg (rAddD K) addD := by
  intro F H x y v w d Q sm hx hy e k
  unfold addD at e
  split at e
  · cases e
    cases hx.int_; cases hy.int_
    exact .inl ⟨_, _, rfl, rfl, k _ F H (.refl _ _) Rep.int⟩
  · split at e
    · rename_i hz
      cases e
      cases hx.str_; cases hy.str_
      exact .inr (.inl ⟨_, _, rfl, rfl, hz, k _ F H (.refl _ _) Rep.str⟩)
    · cases e
  · split at e
    · rename_i a b hz
      cases e
      obtain ⟨pa, vs, rfl, h1, r1⟩ := hx
      obtain ⟨pb, ws, rfl, h2, r2⟩ := hy
      have l1 := r1.len
      have l2 := r2.len
      refine .inr (.inr (.inl ⟨pa, pb, vs, ws, rfl, rfl, .of h1, .of h2, by rw [← l1, ← l2]; exact hz, fun z => ?_, fun z1 z2 => ?_, fun _ _ p hp => ?_⟩))
      · subst z
        have : a = [] := List.eq_nil_of_length_eq_zero l1
        subst this
        refine k (.ref pb) (upd F pb (.tup ws)) H (.tup (.refl _ _) pb ws h2) ?_
        unfold Rep
        refine ⟨pb, ws, rfl, upd_same, Reps.keeps (Same.keeps fun q o e => ?_) _ _ r2⟩
        by_cases z : q = pb
        · subst z; rw [sm _ _ e] at h2; cases h2; exact upd_same
        · rw [upd_ne z]; exact e
      · subst z2
        have : b = [] := List.eq_nil_of_length_eq_zero l2
        subst this
        refine k (.ref pa) (upd F pa (.tup vs)) H (.tup (.refl _ _) pa vs h1) ?_
        rw [List.append_nil]
        unfold Rep
        refine ⟨pa, vs, rfl, upd_same, Reps.keeps (Same.keeps fun q o e => ?_) _ _ r1⟩
        by_cases z : q = pa
        · subst z; rw [sm _ _ e] at h1; cases h1; exact upd_same
        · rw [upd_ne z]; exact e
      · exact k (.ref p) _ _ (.one hp) (Rep.tup_new (r1.append r2) (Same.none sm hp))
    · cases e
  · split at e
    · rename_i a b hz
      cases e
      obtain ⟨pa, vs, rfl, h1, r1⟩ := hx
      obtain ⟨pb, ws, rfl, h2, r2⟩ := hy
      have l1 := r1.len
      have l2 := r2.len
      refine .inr (.inr (.inr ⟨pa, pb, vs, ws, rfl, rfl, h1, h2, by rw [← l1, ← l2]; exact hz, fun p hp => ?_⟩))
      have r3 := r1.append r2
      refine k (.ref p) _ _ (.one hp) ?_
      unfold Rep
      exact ⟨p, _, rfl, upd_same, Reps.keeps (Same.keeps (same_upd (Same.none sm hp))) _ _ r3⟩
    · cases e
  · cases e
theorem de_add {W : WX} {pos : Pos} {a b : Expr} {f g : DS → Res Ar} (ha : DA1 X W a f) (hb : DA1 X W b g) : DE X W (.BinOp a .Add b pos) (eOp2 addD f g) := de_op op_addD s_addD ha hb
/-! ### - * // % ** -/
def subD : D → D → Option D
  | .int a, .int b => some (.int (a - b))
  | _, _ => none
theorem s_sub : OpS2 K mg (rI0 fun i j => .int (i - j)) subD := by
  intro F H x y v w d Q sm hx hy e k
  unfold subD at e
  split at e
  · cases e
    cases hx.int_; cases hy.int_
    exact ⟨_, _, rfl, rfl, k _ F H (.refl _ _) Rep.int⟩
  · cases e
theorem de_sub {W : WX} {pos : Pos} {a b : Expr} {f g : DS → Res Ar} (ha : DA1 X W a f) (hb : DA1 X W b g) : DE X W (.BinOp a .Sub b pos) (eOp2 subD f g) := de_op op_sub s_sub ha hb
def mulD : D → D → Option D
  | .int a, .int b => if MulOk a b then some (.int (a * b)) else none
  | .lst a, .int k => if -(2 ^ 63) ≤ k ∧ k < 2 ^ 63 ∧ sizeOk (a.length * k.toNat) then some (.lst (List.replicate k.toNat a).flatten) else none
  | _, _ => none
abbrev rMulD : R2 := fun x y H Q => (rI MulOk fun i j => .int (i * j)) x y H Q ∨ rRep x y H Q
theorem op_mulD : OpR X (binaryOp .Mult) rMulD := op_mulX.or op_rep
theorem Reps.rep {F : Hp} {ds : List D} {vs : List V} (h : Reps K mg F ds vs) : ∀ k : Nat, Reps K mg F (List.replicate k ds).flatten (List.replicate k vs).flatten
  | 0 => .nil
  | k + 1 => by
    rw [List.replicate_succ, List.replicate_succ, List.flatten_cons, List.flatten_cons]
    exact h.append (Reps.rep h k)
theorem s_mulD : OpS2 K mg rMulD mulD := by
  intro F H x y v w d Q sm hx hy e k
  unfold mulD at e
  split at e
  · split at e
    · rename_i hz
      cases e
      cases hx.int_; cases hy.int_
      exact .inl ⟨_, _, rfl, rfl, hz, k _ F H (.refl _ _) Rep.int⟩
    · cases e
  · split at e
    · rename_i hz
      cases e
      obtain ⟨pa, vs, rfl, h1, r1⟩ := hx
      cases hy.int_
      refine .inr ⟨pa, _, vs, rfl, rfl, h1, hz.1, hz.2.1, by rw [← r1.len]; exact hz.2.2, fun p hp => k (.ref p) _ _ (.one hp) ?_⟩
      unfold Rep
      exact ⟨p, _, rfl, upd_same, Reps.keeps (Same.keeps (same_upd (Same.none sm hp))) _ _ (r1.rep _)⟩
    · cases e
  · cases e
theorem de_mul {W : WX} {pos : Pos} {a b : Expr} {f g : DS → Res Ar} (ha : DA1 X W a f) (hb : DA1 X W b g) : DE X W (.BinOp a .Mult b pos) (eOp2 mulD f g) := de_op op_mulD s_mulD ha hb
def nRepD : D → D → Option Own
  | .lst a, .int k => if -(2 ^ 63) ≤ k ∧ k < 2 ^ 63 ∧ sizeOk (a.length * k.toNat) then some (.l (List.replicate k.toNat a).flatten) else none
  | _, _ => none
theorem s_nrep : NwS2 K mg rRep nRepD := by
  intro F H x y v w d Q sm hx hy e k
  unfold nRepD at e
  split at e
  · split at e
    · rename_i hz
      cases e
      obtain ⟨pa, vs, rfl, h1, r1⟩ := hx
      cases hy.int_
      exact ⟨pa, _, vs, rfl, rfl, h1, hz.1, hz.2.1, by rw [← r1.len]; exact hz.2.2, fun p hp => k p _ F H (.refl _ _) hp ⟨_, rfl, r1.rep _⟩⟩
    · cases e
  · cases e
/-- [..] * n, a new list -/
theorem dn_rep {W : WX} {pos : Pos} {a b : Expr} {f g : DS → Res Ar} (ha : DA1 X W a f) (hb : DA1 X W b g) : DN X W (.BinOp a .Mult b pos) (nOp2 nRepD f g) := dn_op op_rep s_nrep ha hb
def nCatD : D → D → Option Own
  | .lst a, .lst b => if sizeOk (a.length + b.length) then some (.l (a ++ b)) else none
  | _, _ => none
theorem s_ncat : NwS2 K mg rCat nCatD := by
  intro F H x y v w d Q sm hx hy e k
  unfold nCatD at e
  split at e
  · split at e
    · rename_i hz
      cases e
      obtain ⟨pa, vs, rfl, h1, r1⟩ := hx
      obtain ⟨pb, ws, rfl, h2, r2⟩ := hy
      exact ⟨pa, pb, vs, ws, rfl, rfl, h1, h2, by rw [← r1.len, ← r2.len]; exact hz, fun p hp => k p _ F H (.refl _ _) hp ⟨_, rfl, r1.append r2⟩⟩
    · cases e
  · cases e
theorem dn_cat {W : WX} {pos : Pos} {a b : Expr} {f g : DS → Res Ar} (ha : DA1 X W a f) (hb : DA1 X W b g) : DN X W (.BinOp a .Add b pos) (nOp2 nCatD f g) := dn_op op_cat s_ncat ha hb
def divD : D → D → Option D
  | .int a, .int b => if DivOk a b then some (.int (a.fdiv b)) else none
  | _, _ => none
theorem s_div : OpS2 K mg (rI DivOk fun i j => .int (i.fdiv j)) divD := by
  intro F H x y v w d Q sm hx hy e k
  unfold divD at e
  split at e
  · split at e
    · rename_i hz
      cases e
      cases hx.int_; cases hy.int_
      exact ⟨_, _, rfl, rfl, hz, k _ F H (.refl _ _) Rep.int⟩
    · cases e
  · cases e
theorem de_div {W : WX} {pos : Pos} {a b : Expr} {f g : DS → Res Ar} (ha : DA1 X W a f) (hb : DA1 X W b g) : DE X W (.BinOp a .FloorDiv b pos) (eOp2 divD f g) := de_op op_divX s_div ha hb
def modD : D → D → Option D
  | .int a, .int b => if b ≠ 0 then some (.int (a.fmod b)) else none
  | _, _ => none
theorem s_mod : OpS2 K mg (rI (fun _ j => j ≠ 0) fun i j => .int (i.fmod j)) modD := by
  intro F H x y v w d Q sm hx hy e k
  unfold modD at e
  split at e
  · split at e
    · rename_i hz
      cases e
      cases hx.int_; cases hy.int_
      exact ⟨_, _, rfl, rfl, hz, k _ F H (.refl _ _) Rep.int⟩
    · cases e
  · cases e
theorem de_mod {W : WX} {pos : Pos} {a b : Expr} {f g : DS → Res Ar} (ha : DA1 X W a f) (hb : DA1 X W b g) : DE X W (.BinOp a .Mod b pos) (eOp2 modD f g) := de_op op_modN s_mod ha hb
def powD : D → D → Option D
  | .int a, .int b => if PowOk a b then some (.int (a ^ b.toNat)) else none
  | _, _ => none
theorem s_pow : OpS2 K mg (rI CPow fun i j => .int (i ^ j.toNat)) powD := by
  intro F H x y v w d Q sm hx hy e k
  unfold powD at e
  split at e
  · split at e
    · rename_i hz
      cases e
      cases hx.int_; cases hy.int_
      exact ⟨_, _, rfl, rfl, hz, k _ F H (.refl _ _) Rep.int⟩
    · cases e
  · cases e
theorem de_pow {W : WX} {pos : Pos} {a b : Expr} {f g : DS → Res Ar} (ha : DA1 X W a f) (hb : DA1 X W b g) : DE X W (.BinOp a .Pow b pos) (eOp2 powD f g) := de_op op_pow s_pow ha hb
def negD : D → Option D
  | .int a => some (.int (-a))
  | _ => none
theorem s_neg : OpS1 K mg (rU fun i => .int (-i)) negD := by
  intro F H x v d Q sm hx e k
  unfold negD at e
  split at e
  · cases e
    cases hx.int_
    exact ⟨_, rfl, k _ F H (.refl _ _) Rep.int⟩
  · cases e
theorem de_neg {W : WX} {pos : Pos} {a : Expr} {f : DS → Res Ar} (ha : DA1 X W a f) : DE X W (.UnaryOp .USub a pos) (eOp1 negD f) := de_un un_neg s_neg ha
/-! ### < <= > >= -/
def cmpD (p : Int → Int → Bool) : D → D → Option D
  | .int a, .int b => some (.bl (p a b))
  | _, _ => none
theorem s_cmp {p : Int → Int → Bool} : OpS2 K mg (rI0 fun i j => .bl (p i j)) (cmpD p) := by
  intro F H x y v w d Q sm hx hy e k
  unfold cmpD at e
  split at e
  · cases e
    cases hx.int_; cases hy.int_
    exact ⟨_, _, rfl, rfl, k _ F H (.refl _ _) Rep.bl⟩
  · cases e
abbrev ltD := cmpD fun i j => decide (i < j)
abbrev leD := cmpD fun i j => decide (i ≤ j)
abbrev gtD := cmpD fun i j => decide (j < i)
abbrev geD := cmpD fun i j => decide (j ≤ i)
theorem s_lt : OpS2 K mg (rI0 fun i j => .bl (decide (i < j))) ltD := s_cmp
theorem s_le : OpS2 K mg (rI0 fun i j => .bl (decide (i ≤ j))) leD := s_cmp
theorem s_gt : OpS2 K mg (rI0 fun i j => .bl (decide (j < i))) gtD := s_cmp
theorem s_ge : OpS2 K mg (rI0 fun i j => .bl (decide (j ≤ i))) geD := s_cmp
/-! ### == -/
mutual
def toPy : D → Option PyData
  | .non => some .none
  | .bl b => some (.bool b)
  | .int i => some (.int i)
  | .str x => some (.str x)
  | .tup ds => (toPys ds).map .tuple
  | .lst ds => (toPys ds).map .list
  | _ => none
def toPys : List D → Option (List PyData)
  | [] => some []
  | d :: ds => match toPy d, toPys ds with
    | some x, some xs => some (x :: xs)
    | _, _ => none
end
mutual
theorem dp_of {F : Hp} : ∀ (d : D) (v : V) (x : PyData), Rep K mg F d v → toPy d = some x → Dp K F v x
  | .non, v, x, h, e => by cases Rep.non_ h; simp [toPy] at e; subst e; exact .non
  | .bl b, v, x, h, e => by cases Rep.bl_ h; simp [toPy] at e; subst e; exact .bl b
  | .int i, v, x, h, e => by cases Rep.int_ h; simp [toPy] at e; subst e; exact .int i
  | .str z, v, x, h, e => by cases Rep.str_ h; simp [toPy] at e; subst e; exact .str z
  | .tup ds, v, x, h, e => by
    obtain ⟨a, vs, rfl, q, r⟩ := h.tup_
    unfold toPy at e
    cases e2 : toPys ds with
    | none => rw [e2] at e; cases e
    | some xs => rw [e2] at e; cases e; exact .tup (.of q) (dps_of ds vs xs r e2)
  | .lst ds, v, x, h, e => by
    obtain ⟨a, vs, rfl, q, r⟩ := h.lst_
    unfold toPy at e
    cases e2 : toPys ds with
    | none => rw [e2] at e; cases e
    | some xs => rw [e2] at e; cases e; exact .lst (.of q) (dps_of ds vs xs r e2)
  | .scr ns, v, x, h, e => by simp [toPy] at e
  | .dT _, v, x, h, e => by simp [toPy] at e
  | .dK _, v, x, h, e => by simp [toPy] at e
  | .obj _ _, v, x, h, e => by simp [toPy] at e
theorem dps_of {F : Hp} : ∀ (ds : List D) (vs : List V) (xs : List PyData), Reps K mg F ds vs → toPys ds = some xs → DpAll K F vs xs
  | [], vs, xs, h, e => by unfold Reps at h; subst h; simp [toPys] at e; subst e; exact .nil
  | d :: ds, vs, xs, h, e => by
    unfold Reps at h
    obtain ⟨v, r, rfl, h1, h2⟩ := h
    unfold toPys at e
    cases e1 : toPy d with
    | none => rw [e1] at e; cases e
    | some x =>
      cases e2 : toPys ds with
      | none => rw [e1, e2] at e; cases e
      | some ys => rw [e1, e2] at e; cases e; exact .cons (dp_of d v x h1 e1) (dps_of ds r ys h2 e2)
end
theorem Dp.same {F H : Hp} (s : Same F H) : (∀ v x, Dp K F v x → Dp K H v x) := by
  intro v x h
  exact Dp.rec (K := K) (H := F) (motive_1 := fun v x _ => Dp K H v x) (motive_2 := fun vs xs _ => DpAll K H vs xs) .non .bl .int .str (fun q _ ih => .lst (Same.seq s q) ih) (fun q _ ih => .tup (q.elim (fun h => .inl (Same.rd s h)) .inr) ih) .nil (fun _ _ a b => .cons a b) h
theorem DpAll.same {F H : Hp} (s : Same F H) : (∀ v x, DpAll K F v x → DpAll K H v x) := by
  intro v x h
  induction h using DpAll.rec (motive_1 := fun v x _ => Dp K H v x) with
  | non => exact .non
  | bl b => exact .bl b
  | int b => exact .int b
  | str b => exact .str b
  | lst q _ ih => exact .lst (Same.seq s q) ih
  | tup q _ ih => exact .tup (q.elim (fun h => .inl (Same.rd s h)) .inr) ih
  | nil => exact .nil
  | cons _ _ a b => exact .cons a b
theorem bdp_of {F H : Hp} (s : Same F H) {d : D} {v : V} {x : PyData} (h : BRep K mg F H d v) (e : toPy d = some x) : Dp K H v x := by
  cases d with
  | tup ds =>
    obtain ⟨a, vs, rfl, q, r⟩ := h
    unfold toPy at e
    cases e2 : toPys ds with
    | none => rw [e2] at e; cases e
    | some xs => rw [e2] at e; cases e; exact .tup (.of q) (DpAll.same s _ _ (dps_of ds vs xs r e2))
  | lst ds =>
    obtain ⟨a, vs, rfl, q, r⟩ := h
    unfold toPy at e
    cases e2 : toPys ds with
    | none => rw [e2] at e; cases e
    | some xs => rw [e2] at e; cases e; exact .lst (.of q) (DpAll.same s _ _ (dps_of ds vs xs r e2))
  | non => exact Dp.same s _ _ (dp_of _ _ _ h e)
  | bl b => exact Dp.same s _ _ (dp_of _ _ _ h e)
  | int b => exact Dp.same s _ _ (dp_of _ _ _ h e)
  | str b => exact Dp.same s _ _ (dp_of _ _ _ h e)
  | scr _ => simp [toPy] at e
  | dT _ => simp [toPy] at e
  | dK _ => simp [toPy] at e
  | obj _ _ => simp [toPy] at e
def eqDB (x y : D) : Option Bool := match toPy x, toPy y with
  | some a, some b => if SeqAt.shaped a = true ∧ SeqAt.shaped b = true then some (PyData.eqv a b) else none
  | _, _ => none
def eqD (x y : D) : Option D := (eqDB x y).map .bl
def neD (x y : D) : Option D := (eqDB x y).map fun b => .bl (!b)
theorem eqDB_of {x y : D} {b : Bool} (h : eqDB x y = some b) : ∃ p q, toPy x = some p ∧ toPy y = some q ∧ SeqAt.shaped p = true ∧ SeqAt.shaped q = true ∧ b = PyData.eqv p q := by
  unfold eqDB at h
  split at h
  · rename_i p q e1 e2
    split at h
    · rename_i hs
      cases h
      exact ⟨p, q, e1, e2, hs.1, hs.2, rfl⟩
    · cases h
  · cases h
theorem s_eq : OpS2 K mg (rEqD K) eqD := by
  intro F H x y v w d Q sm hx hy e k
  unfold eqD at e
  cases e2 : eqDB x y with
  | none => rw [e2] at e; cases e
  | some b =>
    rw [e2] at e; cases e
    obtain ⟨p, q, h1, h2, h3, h4, rfl⟩ := eqDB_of e2
    exact ⟨p, q, bdp_of sm hx h1, bdp_of sm hy h2, h3, h4, k _ F H (.refl _ _) Rep.bl⟩
theorem s_ne : OpS2 K mg (rNeD K) neD := by
  intro F H x y v w d Q sm hx hy e k
  unfold neD at e
  cases e2 : eqDB x y with
  | none => rw [e2] at e; cases e
  | some b =>
    rw [e2] at e; cases e
    obtain ⟨p, q, h1, h2, h3, h4, rfl⟩ := eqDB_of e2
    exact ⟨p, q, bdp_of sm hx h1, bdp_of sm hy h2, h3, h4, k _ F H (.refl _ _) Rep.bl⟩
/-! ### in, not in a list of data -/
def anyEq (ds : List PyData) (d : PyData) : Bool := ds.any fun z => PyData.eqv z d
def inDB (x y : D) : Option Bool := match x, y with
  | x, .lst ys => match toPy x, toPys ys with
    | some a, some bs => if SeqAt.shaped a = true ∧ SeqAt.shaped (.list bs) = true then some (anyEq bs a) else none
    | _, _ => none
  | .str c, .str z => if c.length = 1 then some (decide (c.cps.toList.head? ∈ z.cps.toList.map some)) else none
  | _, _ => none
end
end DL

set_option autoImplicit true
/-! D-layer, part l: in, is, items, slices, displays, attributes, changes. -/
namespace DL
open PySem PySem.Spec PyProof.Rows L2
set_option autoImplicit false
/-! ### keys -/
def dKey : D → Option Key
  | .int i => some (.inl i)
  | .str x => some (.inr x)
  | _ => none
def dKeyL : List D → Option (List Key)
  | [] => some []
  | d :: ds => match dKey d, dKeyL ds with
    | some k, some ks => some (k :: ks)
    | _, _ => none
def dKeys : D → Option (List Key)
  | .tup ds => dKeyL ds
  | _ => none
def valD {κ : Type} [DecidableEq κ] (kvs : List (κ × D)) (k : κ) : Option D := (kvs.find? fun kv => decide (kv.1 = k)).map (·.2)
def putD {κ : Type} [DecidableEq κ] (kvs : List (κ × D)) (k : κ) (v : D) : List (κ × D) := if (kvs.any fun kv => decide (kv.1 = k)) = true then kvs.map fun kv => if kv.1 = k then (kv.1, v) else kv else kvs ++ [(k, v)]
section
variable {K : PySem.W.Frag} {mg : Str → Option Value} {F H : Hp}
theorem dKey_rep {d : D} {k : Key} {v : V} (h : Rep K mg F d v) (e : dKey d = some k) : v = kV k := by
  unfold dKey at e
  split at e
  · cases e; exact Rep.int_ h
  · cases e; exact Rep.str_ h
  · cases e
theorem dKey_brep {d : D} {k : Key} {v : V} (h : BRep K mg F H d v) (e : dKey d = some k) : v = kV k := by
  unfold dKey at e
  split at e
  · cases e; exact h.int_
  · cases e; exact h.str_
  · cases e
theorem dKeyL_reps : ∀ {ds : List D} {ks : List Key} {vs : List V}, Reps K mg F ds vs → dKeyL ds = some ks → vs = ks.map kV
  | [], ks, vs, h, e => by unfold Reps at h; subst h; cases e; rfl
  | d :: ds, ks, vs, h, e => by
    unfold Reps at h
    obtain ⟨v, r, rfl, h1, h2⟩ := h
    unfold dKeyL at e
    cases e1 : dKey d with
    | none => rw [e1] at e; cases e
    | some k =>
      cases e2 : dKeyL ds with
      | none => rw [e1, e2] at e; cases e
      | some ks' =>
        rw [e1, e2] at e; cases e
        rw [dKey_rep h1 e1, dKeyL_reps h2 e2]; rfl
theorem dKeys_brep {d : D} {ks : List Key} {v : V} (h : BRep K mg F H d v) (e : dKeys d = some ks) : ∃ b, v = .ref b ∧ H b = some (.tup (ks.map kV)) := by
  unfold dKeys at e
  split at e
  · obtain ⟨a, vs, rfl, q, r⟩ := h
    rw [dKeyL_reps r e] at q
    exact ⟨a, rfl, q⟩
  · cases e
theorem dKeys_rep {d : D} {ks : List Key} {v : V} (h : Rep K mg F d v) (e : dKeys d = some ks) : ∃ b, v = .ref b ∧ F b = some (.tup (ks.map kV)) := by
  unfold dKeys at e
  split at e
  · obtain ⟨a, vs, rfl, q, r⟩ := h.tup_
    rw [dKeyL_reps r e] at q
    exact ⟨a, rfl, q⟩
  · cases e
theorem RepT.val : ∀ {kvs : List (List Key × D)} {ws : List (List Key × V)} (k : List Key), RepT K mg F kvs ws → (valD kvs k = none → valV ws k = none) ∧ ∀ d, valD kvs k = some d → ∃ v, valV ws k = some v ∧ Rep K mg F d v
  | [], ws, k, h => by unfold RepT at h; subst h; exact ⟨fun _ => rfl, fun d e => by cases e⟩
  | p :: kvs, ws, k, h => by
    unfold RepT at h
    obtain ⟨v, r, rfl, h1, h2⟩ := h
    have ih := RepT.val k h2
    by_cases z : p.1 = k
    · refine ⟨fun e => ?_, fun d e => ?_⟩
      · simp [valD, List.find?_cons, z] at e
      · simp [valD, List.find?_cons, z] at e
        subst e
        exact ⟨v, by rw [valV_pos z], h1⟩
    · refine ⟨fun e => ?_, fun d e => ?_⟩
      · rw [valV_neg z]
        exact ih.1 (by simpa [valD, List.find?_cons, z] using e)
      · obtain ⟨u, e1, e2⟩ := ih.2 d (by simpa [valD, List.find?_cons, z] using e)
        exact ⟨u, by rw [valV_neg z]; exact e1, e2⟩
theorem RepK.val : ∀ {kvs : List (Key × D)} {ws : List (Key × V)} (k : Key), RepK K mg F kvs ws → (valD kvs k = none → valV ws k = none) ∧ ∀ d, valD kvs k = some d → ∃ v, valV ws k = some v ∧ Rep K mg F d v
  | [], ws, k, h => by unfold RepK at h; subst h; exact ⟨fun _ => rfl, fun d e => by cases e⟩
  | p :: kvs, ws, k, h => by
    unfold RepK at h
    obtain ⟨v, r, rfl, h1, h2⟩ := h
    have ih := RepK.val k h2
    by_cases z : p.1 = k
    · refine ⟨fun e => ?_, fun d e => ?_⟩
      · simp [valD, List.find?_cons, z] at e
      · simp [valD, List.find?_cons, z] at e
        subst e
        exact ⟨v, by rw [valV_pos z], h1⟩
    · refine ⟨fun e => ?_, fun d e => ?_⟩
      · rw [valV_neg z]
        exact ih.1 (by simpa [valD, List.find?_cons, z] using e)
      · obtain ⟨u, e1, e2⟩ := ih.2 d (by simpa [valD, List.find?_cons, z] using e)
        exact ⟨u, by rw [valV_neg z]; exact e1, e2⟩
theorem RepT.any : ∀ {kvs : List (List Key × D)} {ws : List (List Key × V)} (k : List Key), RepT K mg F kvs ws → (ws.any fun kv => decide (kv.1 = k)) = kvs.any fun kv => decide (kv.1 = k)
  | [], ws, k, h => by unfold RepT at h; subst h; rfl
  | p :: kvs, ws, k, h => by
    unfold RepT at h
    obtain ⟨v, r, rfl, h1, h2⟩ := h
    simp [RepT.any k h2]
theorem RepK.any : ∀ {kvs : List (Key × D)} {ws : List (Key × V)} (k : Key), RepK K mg F kvs ws → (ws.any fun kv => decide (kv.1 = k)) = kvs.any fun kv => decide (kv.1 = k)
  | [], ws, k, h => by unfold RepK at h; subst h; rfl
  | p :: kvs, ws, k, h => by
    unfold RepK at h
    obtain ⟨v, r, rfl, h1, h2⟩ := h
    simp [RepK.any k h2]
theorem RepT.repl : ∀ {kvs : List (List Key × D)} {ws : List (List Key × V)} {d : D} {v : V} (k : List Key), RepT K mg F kvs ws → Rep K mg F d v → RepT K mg F (kvs.map fun kv => if kv.1 = k then (kv.1, d) else kv) (ws.map fun kv => if kv.1 = k then (kv.1, v) else kv)
  | [], ws, d, v, k, h, q => by unfold RepT at h; subst h; unfold RepT; rfl
  | p :: kvs, ws, d, v, k, h, q => by
    unfold RepT at h
    obtain ⟨u, r, rfl, h1, h2⟩ := h
    have ih := RepT.repl k h2 q
    rw [List.map_cons, List.map_cons]
    unfold RepT
    by_cases z : p.1 = k
    · exact ⟨v, _, by simp [z], by simpa [z] using q, ih⟩
    · exact ⟨u, _, by simp [z], by simpa [z] using h1, ih⟩
theorem RepT.snoc : ∀ {kvs : List (List Key × D)} {ws : List (List Key × V)} {d : D} {v : V} (k : List Key), RepT K mg F kvs ws → Rep K mg F d v → RepT K mg F (kvs ++ [(k, d)]) (ws ++ [(k, v)])
  | [], ws, d, v, k, h, q => by unfold RepT at h; subst h; show RepT K mg F [(k, d)] [(k, v)]; unfold RepT; exact ⟨v, [], rfl, q, by unfold RepT; rfl⟩
  | p :: kvs, ws, d, v, k, h, q => by
    unfold RepT at h
    obtain ⟨u, r, rfl, h1, h2⟩ := h
    rw [List.cons_append, List.cons_append]
    unfold RepT
    exact ⟨u, _, rfl, h1, RepT.snoc k h2 q⟩
theorem RepT.put {kvs : List (List Key × D)} {ws : List (List Key × V)} {d : D} {v : V} (k : List Key) (h : RepT K mg F kvs ws) (q : Rep K mg F d v) : RepT K mg F (putD kvs k d) (putK ws k v) := by
  unfold putD putK
  rw [h.any k]
  split
  · exact h.repl k q
  · exact h.snoc k q
theorem RepK.repl : ∀ {kvs : List (Key × D)} {ws : List (Key × V)} {d : D} {v : V} (k : Key), RepK K mg F kvs ws → Rep K mg F d v → RepK K mg F (kvs.map fun kv => if kv.1 = k then (kv.1, d) else kv) (ws.map fun kv => if kv.1 = k then (kv.1, v) else kv)
  | [], ws, d, v, k, h, q => by unfold RepK at h; subst h; unfold RepK; rfl
  | p :: kvs, ws, d, v, k, h, q => by
    unfold RepK at h
    obtain ⟨u, r, rfl, h1, h2⟩ := h
    have ih := RepK.repl k h2 q
    rw [List.map_cons, List.map_cons]
    unfold RepK
    by_cases z : p.1 = k
    · exact ⟨v, _, by simp [z], by simpa [z] using q, ih⟩
    · exact ⟨u, _, by simp [z], by simpa [z] using h1, ih⟩
theorem RepK.snoc : ∀ {kvs : List (Key × D)} {ws : List (Key × V)} {d : D} {v : V} (k : Key), RepK K mg F kvs ws → Rep K mg F d v → RepK K mg F (kvs ++ [(k, d)]) (ws ++ [(k, v)])
  | [], ws, d, v, k, h, q => by unfold RepK at h; subst h; show RepK K mg F [(k, d)] [(k, v)]; unfold RepK; exact ⟨v, [], rfl, q, by unfold RepK; rfl⟩
  | p :: kvs, ws, d, v, k, h, q => by
    unfold RepK at h
    obtain ⟨u, r, rfl, h1, h2⟩ := h
    rw [List.cons_append, List.cons_append]
    unfold RepK
    exact ⟨u, _, rfl, h1, RepK.snoc k h2 q⟩
theorem RepK.put {kvs : List (Key × D)} {ws : List (Key × V)} {d : D} {v : V} (k : Key) (h : RepK K mg F kvs ws) (q : Rep K mg F d v) : RepK K mg F (putD kvs k d) (putK ws k v) := by
  unfold putD putK
  rw [h.any k]
  split
  · exact h.repl k q
  · exact h.snoc k q
end
/-- looking up; none: nothing is said, some none: it is not there -/
def getD2 (x y : D) : Option (Option D) := match x with
  | .dT kvs => (dKeys y).map (valD kvs)
  | .dK kvs => (dKey y).map (valD kvs)
  | _ => none
section
variable {K : PySem.W.Frag} {mg : Str → Option Value} {F H : Hp}
theorem dget_of {x y : D} {v w : V} {o : Option D} (sm : Same F H) (hx : BRep K mg F H x v) (hy : BRep K mg F H y w) (e : getD2 x y = some o) : ∃ a r, v = .ref a ∧ DGet H a w r ∧ (o = none → r = none) ∧ ∀ d, o = some d → ∃ u, r = some u ∧ Rep K mg F d u := by
  unfold getD2 at e
  split at e
  · rename_i kvs
    obtain ⟨a, ws, rfl, q, r⟩ := hx
    cases e2 : dKeys y with
    | none => rw [e2] at e; cases e
    | some ks =>
      rw [e2] at e; cases e
      obtain ⟨b, rfl, hb⟩ := dKeys_brep hy e2
      obtain ⟨h1, h2⟩ := r.val ks
      exact ⟨a, valV ws ks, rfl, .inr ⟨ws, ks, b, q, rfl, hb, rfl⟩, h1, fun d e => h2 d e⟩
  · rename_i kvs
    obtain ⟨a, ws, rfl, q, r⟩ := hx
    cases e2 : dKey y with
    | none => rw [e2] at e; cases e
    | some k =>
      rw [e2] at e; cases e
      have := dKey_brep hy e2
      obtain ⟨h1, h2⟩ := r.val k
      exact ⟨a, valV ws k, rfl, .inl ⟨ws, k, q, this, rfl⟩, h1, fun d e => h2 d e⟩
  · cases e
end
/-! ### in -/
def inB (x y : D) : Option Bool := match y with
  | .lst ys => match toPy x, toPys ys with
    | some a, some bs => if SeqAt.shaped a = true ∧ SeqAt.shaped (.list bs) = true then some (anyEq bs a) else none
    | _, _ => none
  | .str z => match x with
    | .str ⟨⟨[c]⟩⟩ => some (decide (c ∈ z.cps.toList))
    | _ => none
  | y => (getD2 y x).map (·.isSome)
def inD (x y : D) : Option D := (inB x y).map .bl
def notInD (x y : D) : Option D := (inB x y).map fun b => .bl (!b)
section
variable {X : Cx} {K : PySem.W.Frag} {mg : Str → Option Value}
def rInT (n : Bool) : R2 := fun y x H Q => ∃ a o, x = .ref a ∧ DGet H a y o ∧ Q (.bl (o.isSome ^^ n)) H
theorem op_inT (hu : X.A.units + 1 < cLine) : OpR X (compareOp .In) (rInT false) := by
  intro pins s σ H x y v u Q I rx ry h
  obtain ⟨a, o, rfl, g, q⟩ := h
  cases ry
  exact d_in hu I g rx fun s3 I3 => ⟨.bl o.isSome, H, I3, rfl, by simpa using q⟩
theorem op_notInT (hu : X.A.units + 1 < cLine) : OpR X (compareOp .NotIn) (rInT true) := by
  intro pins s σ H x y v u Q I rx ry h
  obtain ⟨a, o, rfl, g, q⟩ := h
  cases ry
  exact d_notIn hu I g rx fun s3 I3 => ⟨.bl (!o.isSome), H, I3, rfl, by simpa using q⟩
abbrev rSign (n : Bool) : R2 := fun x y H Q => ∃ (c : Nat) (z : Str), x = .str ⟨#[c]⟩ ∧ y = .str z ∧ Q (.bl (decide (c ∈ z.cps.toList) ^^ n)) H
theorem op_sign : OpR X (compareOp .In) (rSign false) := by
  intro pins s σ H x y v u Q I rx ry h
  obtain ⟨c, z, e1, e2, q⟩ := h
  exact op_in_sign pins s σ H x y v u Q I rx ry ⟨c, z, e1, e2, by simpa using q⟩
theorem op_nsign : OpR X (compareOp .NotIn) (rSign true) := by
  intro pins s σ H x y v u Q I rx ry h
  obtain ⟨c, z, e1, e2, q⟩ := h
  exact op_notIn_sign pins s σ H x y v u Q I rx ry ⟨c, z, e1, e2, by simpa using q⟩
abbrev rInA (K : PySem.W.Frag) : R2 := fun x y H Q => rInD K x y H Q ∨ rSign false x y H Q ∨ rInT false x y H Q
abbrev rNotInA (K : PySem.W.Frag) : R2 := fun x y H Q => rNotInD K x y H Q ∨ rSign true x y H Q ∨ rInT true x y H Q
theorem op_inA {k : Nat} {W : WX} (C : Ctx k X W) : OpR X (compareOp .In) (rInA X.K) := (op_inD (by have := C.room.un; omega)).or (op_sign.or (op_inT (hu_of C.room)))
theorem op_notInA {k : Nat} {W : WX} (C : Ctx k X W) : OpR X (compareOp .NotIn) (rNotInA X.K) := (op_notInD (by have := C.room.un; omega)).or (op_nsign.or (op_notInT (hu_of C.room)))
theorem inB_of {x y : D} {b : Bool} (e : inB x y = some b) :
    (∃ ys a bs, y = .lst ys ∧ toPy x = some a ∧ toPys ys = some bs ∧ SeqAt.shaped a = true ∧ SeqAt.shaped (.list bs) = true ∧ b = anyEq bs a) ∨ (∃ c z, x = .str ⟨#[c]⟩ ∧ y = .str z ∧ b = decide (c ∈ z.cps.toList)) ∨ ∃ o, getD2 y x = some o ∧ b = o.isSome := by
  unfold inB at e
  split at e
  · rename_i ys
    split at e
    · rename_i a bs e1 e2
      split at e
      · rename_i hs
        cases e
        exact .inl ⟨ys, a, bs, rfl, e1, e2, hs.1, hs.2, rfl⟩
      · cases e
    · cases e
  · split at e
    · cases e
      exact .inr (.inl ⟨_, _, rfl, rfl, rfl⟩)
    · cases e
  · cases e2 : getD2 y x with
    | none => rw [e2] at e; cases e
    | some o => rw [e2] at e; cases e; exact .inr (.inr ⟨o, rfl, rfl⟩)
theorem s_in : OpS2 K mg (rInA K) inD := by
  intro F H x y v w d Q sm hx hy e k
  unfold inD at e
  cases e2 : inB x y with
  | none => rw [e2] at e; cases e
  | some b =>
    rw [e2] at e; cases e
    rcases inB_of e2 with ⟨ys, a, bs, rfl, e1, e3, h1, h2, rfl⟩ | ⟨c, z, rfl, rfl, rfl⟩ | ⟨o, e3, rfl⟩
    · exact .inl ⟨a, bs, bdp_of sm hx e1, bdp_of sm hy (by simp [toPy, e3]), h1, h2, k _ F H (.refl _ _) Rep.bl⟩
    · exact .inr (.inl ⟨c, z, hx.str_, hy.str_, k _ F H (.refl _ _) (by rw [Bool.xor_false]; exact Rep.bl)⟩)
    · obtain ⟨a, r, rfl, g, h1, h2⟩ := dget_of sm hy hx e3
      refine .inr (.inr ⟨a, r, rfl, g, k _ F H (.refl _ _) ?_⟩)
      cases o with
      | none => rw [h1 rfl]; exact Rep.bl
      | some d => obtain ⟨u, rfl, _⟩ := h2 d rfl; exact Rep.bl
theorem s_notIn : OpS2 K mg (rNotInA K) notInD := by
  intro F H x y v w d Q sm hx hy e k
  unfold notInD at e
  cases e2 : inB x y with
  | none => rw [e2] at e; cases e
  | some b =>
    rw [e2] at e; cases e
    rcases inB_of e2 with ⟨ys, a, bs, rfl, e1, e3, h1, h2, rfl⟩ | ⟨c, z, rfl, rfl, rfl⟩ | ⟨o, e3, rfl⟩
    · exact .inl ⟨a, bs, bdp_of sm hx e1, bdp_of sm hy (by simp [toPy, e3]), h1, h2, k _ F H (.refl _ _) Rep.bl⟩
    · exact .inr (.inl ⟨c, z, hx.str_, hy.str_, k _ F H (.refl _ _) (by rw [Bool.xor_true]; exact Rep.bl)⟩)
    · obtain ⟨a, r, rfl, g, h1, h2⟩ := dget_of sm hy hx e3
      refine .inr (.inr ⟨a, r, rfl, g, k _ F H (.refl _ _) ?_⟩)
      cases o with
      | none => rw [h1 rfl]; exact Rep.bl
      | some d => obtain ⟨u, rfl, _⟩ := h2 d rfl; exact Rep.bl
/-! ### is None, is a truth -/
def isNonD : D → Bool
  | .non => true
  | _ => false
def isB (x y : D) : Option Bool := match y with
  | .non => some (isNonD x)
  | .bl b => match x with
    | .bl a => some (decide (a = b))
    | _ => none
  | _ => none
def isD (x y : D) : Option D := (isB x y).map .bl
def isNotD (x y : D) : Option D := (isB x y).map fun b => .bl (!b)
abbrev rIsA : R2 := fun x y H Q => (fun x y H Q => y = V.non ∧ Q (.bl (decide (x = .non))) H) x y H Q ∨ rIsB x y H Q
abbrev rIsNotA : R2 := fun x y H Q => (fun x y H Q => y = V.non ∧ Q (.bl (!decide (x = .non))) H) x y H Q ∨ rNotB x y H Q
theorem op_isA : OpR X (compareOp .Is) rIsA := op_isN.or op_isBl
theorem op_isNotA : OpR X (compareOp .IsNot) rIsNotA := op_notN.or op_notBl
theorem brep_non {F H : Hp} {x : D} {v : V} (h : BRep K mg F H x v) : decide (v = .non) = isNonD x := by
  cases x with
  | non => cases h.non_; rfl
  | bl b => cases h.bl_; rfl
  | int b => cases h.int_; rfl
  | str b => cases h.str_; rfl
  | tup b => obtain ⟨a, vs, rfl, _⟩ := h; rfl
  | lst b => obtain ⟨a, vs, rfl, _⟩ := h; rfl
  | scr b => obtain ⟨a, rfl, _⟩ := h; rfl
  | dT b => obtain ⟨a, vs, rfl, _⟩ := h; rfl
  | dK b => obtain ⟨a, vs, rfl, _⟩ := h; rfl
  | obj c b => obtain ⟨a, C, dx, vs, rfl, _⟩ := h; rfl
theorem s_is : OpS2 K mg rIsA isD := by
  intro F H x y v w d Q sm hx hy e k
  unfold isD isB at e
  split at e
  · cases e
    refine .inl ⟨hy.non_, ?_⟩
    rw [brep_non hx]
    exact k _ F H (.refl _ _) Rep.bl
  · split at e
    · cases e
      exact .inr ⟨_, _, hx.bl_, hy.bl_, k _ F H (.refl _ _) Rep.bl⟩
    · cases e
  · cases e
theorem s_isNot : OpS2 K mg rIsNotA isNotD := by
  intro F H x y v w d Q sm hx hy e k
  unfold isNotD isB at e
  split at e
  · cases e
    refine .inl ⟨hy.non_, ?_⟩
    rw [brep_non hx]
    exact k _ F H (.refl _ _) Rep.bl
  · split at e
    · cases e
      exact .inr ⟨_, _, hx.bl_, hy.bl_, k _ F H (.refl _ _) Rep.bl⟩
    · cases e
  · cases e
/-! ### o[i] -/
def ixD (x y : D) : Option D := match x, y with
  | .lst ds, .int i => atI ds i
  | .tup ds, .int i => atI ds i
  | .scr ns, .int i => (atI ns i).map .int
  | .str z, .int i => if sizeOk z.length then (atI z.cps.toList i).map fun c => .str ⟨#[c]⟩ else none
  | x, y => (getD2 x y).bind id
def rIxX : R2 := fun x y H Q => ∃ a v, x = .ref a ∧ DGet H a y (some v) ∧ Q v H
theorem ix_dict (hu : X.A.units + 1 < cLine) : IxR X rIxX := by
  intro value slice pins s σ H x y v u Q I rx ry h hs
  obtain ⟨a, w, rfl, g, q⟩ := h
  cases rx
  exact tail_any (ops := [.ref a, u]) (dict_typeIs I g) PySem.F.slot_dict_getitem.lookup (d_getItem hu I g ry fun w' s3 I3 rw' => ⟨w, H, I3, rw', q⟩) hs
abbrev rIxA (K : PySem.W.Frag) : R2 := fun x y H Q => rIx K x y H Q ∨ rIxX x y H Q
theorem ix_A {k : Nat} {W : WX} (C : Ctx k X W) : IxR X (rIxA X.K) := ix_seq.or (ix_dict (hu_of C.room))
theorem atI_reps {F : Hp} {ds : List D} {vs : List V} {i : Int} {d : D} (r : Reps K mg F ds vs) (e : atI ds i = some d) : ∃ v, atI vs i = some v ∧ Rep K mg F d v := by
  unfold atI at e ⊢
  rw [← r.len]
  cases e2 : ixN ds.length i with
  | none => rw [e2] at e; cases e
  | some j =>
    rw [e2] at e
    obtain ⟨v, e3, q⟩ := r.get (show ds[j]? = some d from e)
    exact ⟨v, e3, q⟩
theorem s_ix : OpS2 K mg (rIxA K) ixD := by
  intro F H x y v w d Q sm hx hy e k
  unfold ixD at e
  split at e
  · obtain ⟨a, vs, rfl, q, r⟩ := hx
    obtain ⟨u, e2, q2⟩ := atI_reps r e
    exact .inl (.inl ⟨a, vs, _, u, rfl, hy.int_, .of q, e2, k _ F H (.refl _ _) q2⟩)
  · obtain ⟨a, vs, rfl, q, r⟩ := hx
    obtain ⟨u, e2, q2⟩ := atI_reps r e
    exact .inl (.inr (.inl ⟨a, vs, _, u, rfl, hy.int_, .of q, e2, k _ F H (.refl _ _) q2⟩))
  · rename_i ns i
    obtain ⟨a, rfl, q⟩ := hx
    cases e2 : atI ns i with
    | none => rw [e2] at e; cases e
    | some n =>
      rw [e2] at e; cases e
      refine .inl (.inl ⟨a, _, _, .int n, rfl, hy.int_, q, ?_, k _ F H (.refl _ _) Rep.int⟩)
      unfold atI at e2 ⊢
      rw [List.length_map]
      cases e3 : ixN ns.length i with
      | none => rw [e3] at e2; cases e2
      | some j =>
        rw [e3] at e2
        have e2 : ns[j]? = some n := e2
        show (ns.map V.int)[j]? = some (.int n)
        rw [List.getElem?_map, e2]; rfl
  · rename_i z i
    split at e
    · rename_i hz
      cases e2 : atI z.cps.toList i with
      | none => rw [e2] at e; cases e
      | some c =>
        rw [e2] at e; cases e
        exact .inl (.inr (.inr ⟨z, i, c, hx.str_, hy.int_, hz, e2, k _ F H (.refl _ _) Rep.str⟩))
    · cases e
  · cases e2 : getD2 x y with
    | none => rw [e2] at e; cases e
    | some o =>
      rw [e2] at e
      have e : o = some d := e
      obtain ⟨a, r, rfl, g, _, h2⟩ := dget_of sm hx hy e2
      obtain ⟨u, rfl, q2⟩ := h2 d e
      exact .inr ⟨a, u, rfl, g, k _ F H (.refl _ _) q2⟩
theorem de_ixA {k : Nat} {W : WX} {pos : Pos} {a b : Expr} {f g : DS → Res Ar} (C : Ctx k X W) (ha : DA1 X W a f) (hb : DA1 X W b g) (hp : PlainIx b := by exact fun _ _ => rfl) : DE X W (.Subscript a b pos) (eOp2 ixD f g) := de_ix (ix_A C) s_ix ha hb hp
/-! ### o[a:b] -/
def cutD (xs : List D) (lo hi : Option Int) : List D := (xs.drop (HT.sIx xs.length 0 lo)).take (HT.sIx xs.length xs.length hi - HT.sIx xs.length 0 lo)
def sliceD (x : D) (lo hi : Option Int) : Option D := match x with
  | .lst ds => some (.lst (cutD ds lo hi))
  | .tup ds => some (.tup (cutD ds lo hi))
  | .str z => if sizeOk z.length then some (.str (cutS z lo hi)) else none
  | _ => none
abbrev rSlA3 (K : PySem.W.Frag) : V → Option Int → Option Int → Hp → VK → Prop := fun x lo hi H Q => rSlL K x lo hi H Q ∨ rSlA K x lo hi H Q ∨ rSlS x lo hi H Q
theorem sl_A3 : SlR X (rSlA3 X.K) := sl_list.or (sl_tupA.or sl_str)
theorem Reps.cut {F : Hp} {ds : List D} {vs : List V} (r : Reps K mg F ds vs) (lo hi : Option Int) : Reps K mg F (cutD ds lo hi) (cutV vs lo hi) := by
  unfold cutD cutV
  rw [← r.len]
  exact (r.drop _).take _
theorem s_slice {F H : Hp} {x d : D} {v : V} {lo hi : Option Int} {Q : VK} (sm : Same F H) (hx : BRep K mg F H x v) (e : sliceD x lo hi = some d) (k : ∀ v F' H', Grow F H F' H' → Rep K mg F' d v → Q v H') : rSlA3 K v lo hi H Q := by
  unfold sliceD at e
  split at e
  · cases e
    obtain ⟨a, vs, rfl, q, r⟩ := hx
    refine .inl ⟨a, vs, rfl, .of q, fun p hp => k _ _ _ (.one hp) ?_⟩
    unfold Rep
    exact ⟨p, _, rfl, upd_same, Reps.keeps (Same.keeps (same_upd (Same.none sm hp))) _ _ (r.cut lo hi)⟩
  · cases e
    obtain ⟨a, vs, rfl, q, r⟩ := hx
    refine .inr (.inl ⟨a, vs, rfl, .of q, fun hw => ?_, fun _ p hp => k _ _ _ (.one hp) (Rep.tup_new (r.cut lo hi) (Same.none sm hp))⟩)
    refine k _ (upd F a (.tup vs)) H (.tup (.refl _ _) a vs q) ?_
    unfold Rep
    refine ⟨a, vs, rfl, upd_same, Reps.keeps (F := F) (Same.keeps fun q' o e => ?_) _ _ ?_⟩
    · by_cases z : q' = a
      · subst z; rw [sm _ _ e] at q; cases q; exact upd_same
      · rw [upd_ne z]; exact e
    · have hc := r.cut lo hi
      have : cutV vs lo hi = vs := by
        unfold cutV
        rw [hw.1, hw.2]
        simp
      rw [this] at hc
      exact hc
  · split at e
    · rename_i hz
      cases e
      exact .inr (.inr ⟨_, hx.str_, hz, k _ F H (.refl _ _) Rep.str⟩)
    · cases e
  · cases e
/-- a part of a slice -/
def oNone : DS → Res (Option Int) := fun s => .ok none s
def oSome (f : DS → Res D) : DS → Res (Option Int) := fun s => (f s).bind fun d s => match d with
  | .int i => .ok (some i) s
  | _ => .bad
def tDO (K : PySem.W.Frag) (mg : Str → Option Value) (W : WX) (f : DS → Res (Option Int)) : TO := fun σ H Q => ∃ B F ds, Rel K mg B F H σ ds ∧ Post B F (f ds) (fun o ds' => ∀ F' H', Rel K mg B F' H' σ ds' → Same F F' → Q o H') (Raised K mg B F W σ)
abbrev DO (X : Cx) (W : WX) (e : Option Expr) (f : DS → Res (Option Int)) : Prop := PO X e (tDO X.K X.mg W f)
theorem PO.imp {X : Cx} {e : Option Expr} {t t' : TO} (h : PO X e t) (i : ∀ σ H Q, t' σ H Q → t σ H Q) : PO X e t' := ⟨fun pins s σ H Q I q => h.run pins s σ H Q I (i σ H Q q)⟩
theorem do_none {W : WX} : DO X W none oNone := PO.imp po_none fun σ H Q ⟨B, F, ds, r, p⟩ => p F H r (Same.refl _)
theorem do_some {W : WX} {e : Expr} {f : DS → Res D} (h : DE X W e f) : DO X W (some e) (oSome f) := PO.imp (po_some h) fun σ H Q ⟨B, F, ds, r, p⟩ => ⟨B, F, ds, r, p.bind.mono (fun d s p v F' H' r' s' q => by
  cases d with
  | int i => exact ⟨i, Rep.int_ q, p F' H' r' s'⟩
  | _ => exact p.elim) fun _ _ h => h⟩
def eSl (f : DS → Res Ar) (l h : DS → Res (Option Int)) : DS → Res D := fun s => (f s).bind fun a s => (l s).bind fun lo s => (h s).bind fun hi s => match (a.d s).bind fun x => sliceD x lo hi with
  | some d => .ok d s
  | none => .bad
theorem de_sl {W : WX} {pos p2 : Pos} {e : Expr} {lo hi : Option Expr} {f : DS → Res Ar} {l h : DS → Res (Option Int)} (he : DA1 X W e f) (hl : DO X W lo l) (hh : DO X W hi h) : DE X W (.Subscript e (.Slice lo hi none p2) pos) (eSl f l h) := by
  refine PE.imp (pe_slice sl_A3 he hl hh) fun σ H Q ⟨B, F, ds, r, p⟩ => ⟨B, F, ds, r, p.bind.mono (fun a s p v F' H' r' s' q => ⟨B, F', s, r', p.bind.mono (fun lo s2 p F2 H2 r2 s2' => ⟨B, F2, s2, r2, p.bind.mono (fun hi s3 p F3 H3 r3 s3' => ?_) fun x s h => h.mono (s'.trans s2')⟩) fun x s h => h.mono s'⟩) fun _ _ h => h⟩
  cases e2 : a.d s3 with
  | none => rw [e2] at p; exact p.elim
  | some x =>
    rw [e2, Option.bind_some] at p
    cases e3 : sliceD x lo hi with
    | none => rw [e3] at p; exact p.elim
    | some d =>
      rw [e3] at p
      refine s_slice r3.sub ((q.keeps (s2'.trans s3')).brep r3 e2) e3 fun v F4 H4 g rv => ?_
      obtain ⟨r4, s4⟩ := g.rel r3
      exact p v F4 H4 r4 (((s'.trans s2').trans s3').trans s4) rv
/-- xs[::-1] -/
def revD : D → Option D
  | .lst ds => some (.lst ds.reverse)
  | _ => none
theorem de_rev {W : WX} {pos p1 p2 p3 : Pos} {k : Nat} {e : Expr} {f : DS → Res Ar} (he : DA1 X W e f) : DE X W (.Subscript e (.Slice none none (some (.UnaryOp .USub (.Constant (.int 1) k p1) p2)) p3) pos) (eOp1 revD f) := by
  refine PE.imp (pe_revL he) fun σ H Q ⟨B, F, ds, r, p⟩ => ⟨B, F, ds, r, p.bind.mono (fun a s p v F' H' r' s' q => ?_) fun _ _ h => h⟩
  cases e2 : a.d s with
  | none => rw [e2] at p; exact p.elim
  | some x =>
    rw [e2, Option.bind_some] at p
    cases x with
    | lst xs =>
      obtain ⟨pa, vs, rfl, q2, rr⟩ := q.brep r' e2
      refine ⟨pa, vs, rfl, .of q2, fun pn hp => ?_⟩
      obtain ⟨r4, s4⟩ := (Grow.one (F := F') (o := .lst vs.reverse) hp).rel r'
      refine p _ _ _ r4 (s'.trans s4) ?_
      unfold Rep
      exact ⟨pn, _, rfl, upd_same, Reps.keeps (Same.keeps s4) _ _ rr.reverse⟩
    | _ => exact p.elim
/-! ### displays -/
def allV : List Ar → Option (List D)
  | [] => some []
  | .v d :: as => (allV as).map (d :: ·)
  | _ => none
theorem allV_reps {F : Hp} {σ : St} : ∀ {as : List Ar} {vs : List V} {ds : List D}, ArsOk K mg F σ as vs → allV as = some ds → Reps K mg F ds vs
  | [], vs, ds, h, e => by cases e; rw [show vs = [] from h]; exact .nil
  | .v d :: as, vs, ds, ⟨v, r, ev, h, t⟩, e => by
    have e : (allV as).map (d :: ·) = some ds := e
    cases e2 : allV as with
    | none => rw [e2] at e; cases e
    | some ds' => rw [e2] at e; cases e; subst ev; exact .cons h (allV_reps t e2)
  | .s i :: as, vs, ds, h, e => by cases e
theorem allV_len : ∀ {as : List Ar} {ds : List D}, allV as = some ds → ds.length = as.length
  | [], ds, e => by cases e; rfl
  | .v d :: as, ds, e => by
    have e : (allV as).map (d :: ·) = some ds := e
    cases e2 : allV as with
    | none => rw [e2] at e; cases e
    | some ds' => rw [e2] at e; cases e; simp [allV_len e2]
  | .s i :: as, ds, e => by cases e
/-- so many arguments -/
def ArLen (g : DS → Res (List Ar)) (n : Nat) : Prop := ∀ s as s', g s = .ok as s' → as.length = n
theorem arlen0 : ArLen asNil 0 := fun s as s' e => by cases e; rfl
theorem arlen1 {f : DS → Res Ar} {g : DS → Res (List Ar)} {n : Nat} (h : ArLen g n) : ArLen (asCons f g) (n + 1) := fun s as s' e => by
  unfold asCons at e
  cases e1 : f s with
  | ok a s1 =>
    rw [e1, Res.bind_ok] at e
    cases e2 : g s1 with
    | ok as' s2 => rw [e2, Res.bind_ok] at e; cases e; simp [h _ _ _ e2]
    | ex x s2 => rw [e2] at e; cases e
    | bad => rw [e2] at e; cases e
  | ex x s1 => rw [e1] at e; cases e
  | bad => rw [e1] at e; cases e
def eTup (g : DS → Res (List Ar)) : DS → Res D := fun s => (g s).bind fun as s => match allV as with
  | some ds => .ok (.tup ds) s
  | none => .bad
def nLst (g : DS → Res (List Ar)) : DS → Res Own := fun s => (g s).bind fun as s => match allV as with
  | some ds => .ok (.l ds) s
  | none => .bad
theorem small_ok {n : Nat} (h : n ≤ 1000) : n ≤ sizeLine := Nat.le_of_lt (small1000 h)
theorem de_tup {W : WX} {pos : Pos} {es : List Expr} {x1} {g : DS → Res (List Ar)} {n : Nat} (ha : DAs X W es g) (hl : ArLen g n) (hn : n ≤ 1000 := by decide) : DE X W (.Tuple es x1 pos) (eTup g) := by
  refine PE.imp (pe_tup ha) fun σ H Q ⟨B, F, ds, r, p⟩ => ⟨B, F, ds, r, ?_⟩
  unfold eTup at p
  revert p
  cases eg : g ds with
  | ex x s => exact fun p => p
  | bad => exact fun p => p
  | ok as s =>
    intro p vs F' H' r' s' q
    rw [Res.bind_ok] at p
    cases e2 : allV as with
    | none => rw [e2] at p; exact p.elim
    | some ds' =>
      rw [e2] at p
      have rr := allV_reps q e2
      refine ⟨by rw [q.len, hl _ _ _ eg]; exact small_ok hn, fun pn hp => ?_⟩
      obtain ⟨r4, s4⟩ := (Grow.one (F := F') (o := .tup vs) hp).rel r'
      exact p _ _ _ r4 (s'.trans s4) (Rep.tup_new rr (Same.none r'.sub hp))
theorem dn_lst {W : WX} {pos : Pos} {es : List Expr} {g : DS → Res (List Ar)} {n : Nat} (ha : DAs X W es g) (hl : ArLen g n) (hn : n ≤ 1000 := by decide) : DN X W (.List es pos) (nLst g) := by
  refine PE.imp (pe_lst ha) fun σ H Q ⟨B, F, ds, r, p⟩ => ⟨B, F, ds, r, ?_⟩
  unfold nLst at p
  revert p
  cases eg : g ds with
  | ex x s => exact fun p => p
  | bad => exact fun p => p
  | ok as s =>
    intro p vs F' H' r' s' q
    rw [Res.bind_ok] at p
    cases e2 : allV as with
    | none => rw [e2] at p; exact p.elim
    | some ds' =>
      rw [e2] at p
      have rr := allV_reps q e2
      refine ⟨by rw [q.len, hl _ _ _ eg]; exact small_ok hn, fun pn hp => ?_⟩
      obtain ⟨r4, h4⟩ := r'.newH (o := .lst vs) hp (fun _ z => by cases z)
      exact p pn _ F' _ r4 s' h4.f h4.h ⟨vs, rfl, rr⟩ h4.h0 h4.no
def nEmptyT : DS → Res Own := fun s => .ok (.T []) s
def nEmptyK : DS → Res Own := fun s => .ok (.K []) s
theorem dn_emptyT {W : WX} {pos : Pos} : DN X W (.Dict [] [] pos) nEmptyT := by
  refine PE.imp pe_dnewT fun σ H Q ⟨B, F, ds, r, p⟩ pn hp => ?_
  obtain ⟨r4, h4⟩ := r.newH (o := .dT []) hp (fun _ z => by cases z)
  exact p pn _ F _ r4 (Same.refl _) h4.f h4.h ⟨[], rfl, by unfold RepT; rfl⟩ h4.h0 h4.no
theorem dn_emptyK {W : WX} {pos : Pos} : DN X W (.Dict [] [] pos) nEmptyK := by
  refine PE.imp pe_dnewK fun σ H Q ⟨B, F, ds, r, p⟩ pn hp => ?_
  obtain ⟨r4, h4⟩ := r.newH (o := .dK []) hp (fun _ z => by cases z)
  exact p pn _ F _ r4 (Same.refl _) h4.f h4.h ⟨[], rfl, by unfold RepK; rfl⟩ h4.h0 h4.no
/-! ### o.f -/
/-- a class whose field f is read off the object -/
structure AttD (X : Cx) (c f : Str) : Prop where
  ex : ∃ C, X.mg c = some (.ref C) ∧ Cls X.K C ∧ NoAttr X.K C f
def fldD (c f : Str) : D → Option D
  | .obj c' fs => if c' = c then fs.lookup f else none
  | _ => none
theorem de_fld {W : WX} {pos : Pos} {e : Expr} {c f : Str} {g : DS → Res Ar} (a : AttD X c f) (he : DA1 X W e g) (hb : attributeBase e f X.env (eval e X.env) = eval e X.env := by rfl) : DE X W (.Attribute e f pos) (eOp1 (fldD c f) g) := by
  obtain ⟨C, hc, cl, na⟩ := a.ex
  refine PE.imp (pe_fld he hb) fun σ H Q ⟨B, F, ds, r, p⟩ => ⟨B, F, ds, r, p.bind.mono (fun a s p0 v F' H' r' s' q => ?_) fun _ _ h => h⟩
  cases e2 : a.d s with
  | none => rw [e2] at p0; exact p0.elim
  | some x =>
    rw [e2, Option.bind_some] at p0
    cases x with
    | obj c' fs =>
      have pp : Post B F (match (if c' = c then fs.lookup f else none) with
        | some d => Res.ok d s
        | none => .bad) _ _ := p0
      by_cases hcc : c' = c
      case neg => rw [if_neg hcc] at pp; exact pp.elim
      rw [if_pos hcc] at pp
      subst hcc
      obtain ⟨pa, C', dx, ws, rfl, hm, hh, rf⟩ := q.brep r' e2
      rw [hc] at hm; cases hm
      cases e3 : fs.lookup f with
      | none => rw [e3] at pp; exact pp.elim
      | some d =>
        rw [e3] at pp
        obtain ⟨v, e4, q4⟩ := rf.lookup.2 d e3
        exact ⟨pa, C, dx, ws, v, rfl, hh, cl, na, e4, pp v F' H' r' s' q4⟩
    | _ => exact p0.elim
/-! ### changes of what a slot owns -/
def putFD (f : Str) (v : D) : List (Str × D) → List (Str × D)
  | [] => [(f, v)]
  | p :: fs => if p.1 = f then (f, v) :: fs else p :: putFD f v fs
/-- what slot i owns is changed by the data of an expression -/
def sChg (i : Nat) (fn : Own → D → Option Own) (f : DS → Res D) : DS → Res Fl := fun s => (f s).bind fun d s => match s[i]? with
  | some (.ow io x) => match fn x d with
    | some x' => .ok .nx (s.set i (.ow io x'))
    | none => .bad
  | _ => .bad
end
end DL

set_option autoImplicit true
/-! D-layer, part m: changes, while, get, chains. -/
namespace DL
open PySem PySem.Spec PyProof.Rows L2
set_option autoImplicit false
/-! ### what is never run -/
def eBad : DS → Res D := fun _ => .bad
def aBad : DS → Res Ar := fun _ => .bad
def nBad : DS → Res Own := fun _ => .bad
def tBad : DS → Res Bool := fun _ => .bad
def sBad : DS → Res Fl := fun _ => .bad
section
variable {X : Cx} {W : WX}
theorem de_bad {e : Expr} : DE X W e eBad := ⟨fun _ _ _ _ _ _ ⟨_, _, _, _, p⟩ => p.elim⟩
theorem dn_bad {e : Expr} : DN X W e nBad := ⟨fun _ _ _ _ _ _ ⟨_, _, _, _, p⟩ => p.elim⟩
theorem dt_bad {e : Expr} : DT X W e tBad := ⟨fun _ _ _ _ _ _ ⟨_, _, _, _, p⟩ => p.elim⟩
theorem ds_bad {st : Stmt} : DSt X W st sBad := ⟨fun _ _ _ _ _ _ ⟨_, _, _, _, p⟩ => p.elim⟩
end
/-! ### changes -/
section
variable {K : PySem.W.Frag} {mg : Str → Option Value} {B : Base} {F H : Hp} {σ : St} {s : DS}
def isL : Option Slot → Bool
  | some (.ow _ (.l _)) => true
  | _ => false
def isLT : Option Slot → Bool
  | some (.ow _ (.l _)) => true
  | some (.ow _ (.T _)) => true
  | some (.ow _ (.K _)) => true
  | _ => false
def isO (c : Str) : Option Slot → Bool
  | some (.ow _ (.o c' _)) => c' == c
  | _ => false
def appD (x : Own) (d : D) : Option Own := match x with
  | .l ds => if ds.length < sizeLine then some (.l (ds ++ [d])) else none
  | _ => none
/-- x.append(e) -/
def sApp (i : Nat) (f : DS → Res D) : DS → Res Fl := fun s => if isL s[i]? then sChg i appD f s else .bad
theorem isL_at {o : Option Slot} (h : isL o = true) : ∃ io l, o = some (.ow io (.l l)) := by
  unfold isL at h
  split at h
  · exact ⟨_, _, rfl⟩
  · cases h
end
section
variable {X : Cx} {W : WX} {pos : Pos} {e : Expr}
theorem ds_app (i : Nat) {x : Str} {p1 apos cpos : Pos} {f : DS → Res D} (hN : X.N[i]? = some x := by rfl) (hv : Vis X.env.scope x := by first | exact Or.inl rfl | exact Or.inr (Or.inl rfl) | exact Or.inr (Or.inr rfl)) (hd : (x == ("__debug__" : Str)) = false := by decide)
    (hcd : (x == ("__classdict__" : Str)) = false := by decide) (he : DE X W e f)
    (hbase : attributeBase (.Name x p1) "append" X.env (eval (.Name x p1) X.env) = eval (.Name x p1) X.env := by rfl)
    (hfew : ((backTo cpos (starEach [e] X.env)).all (fun x => !x.1) && (backToKw cpos (keywordEach [] X.env)).all (fun x => x.1.isSome)
      && decide (([e]).length + ([] : List Keyword).length + (if ([] : List Keyword).isEmpty then 0 else 1) < 30)) = true := by rfl)
    (hline : (apos.endLine == cpos.line) = true := by rfl) (hst : starEach [e] X.env = (false, eval e X.env) :: starEach [] X.env := by rfl) (hplain : (backTo cpos (starEach [] X.env)).any (·.1) = false := by rfl)
    (hs : swapsWith (.Call (.Attribute (.Name x p1) "append" apos) [e] [] cpos) none pos.line X.env = pure false := by rfl) :
    DSt X W (.Expr (.Call (.Attribute (.Name x p1) "append" apos) [e] [] cpos) pos) (sApp i f) := by
  refine PS.imp (ps_expr (pe_bm PySem.F.plainAttrs_list PySem.F.slot_list_append PySem.F.type_list_append (fun pins s σ H x xs v us Q I rx rv h => mt_append pins s σ H x xs v us Q I rx rv h) (pe_var hN hv hd hcd) (pa_cons he pa_nil hst) hbase hfew hline hst hplain) hs) fun E σ H ⟨B, F, s, r, p⟩ => ?_
  unfold sApp at p
  by_cases hl : isL s[i]? = true
  case neg => rw [if_neg hl] at p; exact p.elim
  rw [if_pos hl] at p
  obtain ⟨io, l, e1⟩ := isL_at hl
  obtain ⟨pa, o, e2, hf, hp, vs, rfl, q⟩ := r.owned e1
  refine ⟨.ref pa, e2, .inl ⟨rfl, vs, .of hp⟩, B, F, s, r, p.bind.mono (fun d s' p v F' H' r' s2 q' => ?_) fun x s h => h σ⟩
  split at p
  · rename_i io' x' e3
    split at p
    · rename_i x2 e4
      obtain ⟨pa', o', e5, hf', hp', q5⟩ := r'.owned e3
      rw [e2] at e5; cases e5
      unfold appD at e4
      split at e4
      · rename_i ds'
        split at e4
        · rename_i hz
          cases e4
          obtain ⟨vs', rfl, q6⟩ := q5
          refine ⟨pa, vs', v, rfl, rfl, hp', by rw [← q6.len]; exact hz, ?_⟩
          exact p _ _ _ (r'.mutate e3 e2 ⟨_, rfl, q6.append (.cons q' .nil)⟩) s2
        · cases e4
      · cases e4
    · exact p.elim
  · exact p.elim
/-! x[k] = v -/
def putO (x : Own) (k v : D) : Option Own := match x with
  | .l ds => match k with
    | .int j => (ixN ds.length j).map fun n => .l (ds.set n v)
    | _ => none
  | .T kvs => if kvs.length < sizeLine then (dKeys k).map fun k => .T (putD kvs k v) else none
  | .K kvs => if kvs.length < sizeLine then (dKey k).map fun k => .K (putD kvs k v) else none
  | _ => none
def sPut (i : Nat) (fk fv : DS → Res D) : DS → Res Fl := fun s => (fv s).bind fun v s => if isLT s[i]? then (fk s).bind fun k s => match s[i]? with
  | some (.ow io x) => match putO x k v with
    | some x' => .ok .nx (s.set i (.ow io x'))
    | none => .bad
  | _ => .bad else .bad
def rSetA : V → V → V → Hp → (Hp → Prop) → Prop := fun o i v H Q => rSetL o i v H Q ∨ ∃ a H', o = .ref a ∧ DPut H a i v H' ∧ Q H'
theorem set_A (hu : X.A.units + 1 < cLine) : PSet X rSetA := by
  intro pins s σ H o i v ov iv u Q I ro ri rv h
  rcases h with h | ⟨a, H', rfl, g, q⟩
  · exact set_list pins s σ H o i v ov iv u Q I ro ri rv h
  · cases ro
    exact d_setItem hu I g ri rv fun s' I' => ⟨H', I', q⟩
theorem isLT_at {o : Option Slot} (h : isLT o = true) : ∃ io x, o = some (.ow io x) := by
  unfold isLT at h
  split at h
  · exact ⟨_, _, rfl⟩
  · exact ⟨_, _, rfl⟩
  · exact ⟨_, _, rfl⟩
  · cases h
theorem ds_put {k : Nat} (i : Nat) {x : Str} {p1 p2 : Pos} {ek : Expr} {fk fv : DS → Res D} (C : Ctx k X W) (hv' : DE X W e fv) (hk : DE X W ek fk) (hN : X.N[i]? = some x := by rfl) (hv : Vis X.env.scope x := by first | exact Or.inl rfl | exact Or.inr (Or.inl rfl) | exact Or.inr (Or.inr rfl)) (hd : (x == ("__debug__" : Str)) = false := by decide)
    (hcd : (x == ("__classdict__" : Str)) = false := by decide)
    (ha : ∀ v, assign (.Subscript (.Name x p1) ek p2) X.env v = (do
      let ov ← holding [v] (eval (.Name x p1) X.env)
      let iv ← holding [v, ov] (eval ek X.env)
      standAt p2
      holding [v, ov, iv] (setItem ov iv v)
      release [v, ov, iv] []) := by intro _; rfl)
    (hs : swapsWithSole [.Subscript (.Name x p1) ek p2] e pos.line X.env = pure false := by rfl) (hw : swappedStores [.Subscript (.Name x p1) ek p2] e X.env = pure none := by rfl)
    (h1 : (assignEach [.Subscript (.Name x p1) ek p2] X.env).map (·.2) = [assign (.Subscript (.Name x p1) ek p2) X.env] := by rfl) : DSt X W (.Assign [.Subscript (.Name x p1) ek p2] e pos) (sPut i fk fv) := by
  refine PS.imp (ps_asg hv' (pg_sub (pe_var hN hv hd hcd) hk (set_A (hu_of C.room)) ha) hs hw h1) fun E σ H ⟨B, F, s, r, p⟩ => ⟨B, F, s, r, p.bind.mono (fun d s p v F' H' r' s2 q' => ?_) fun x s h => h σ⟩
  by_cases hl : isLT s[i]? = true
  case neg => rw [if_neg hl] at p; exact p.elim
  rw [if_pos hl] at p
  obtain ⟨io, l, e1⟩ := isLT_at hl
  obtain ⟨pa, o, e2, _⟩ := r'.owned e1
  refine ⟨.ref pa, e2, B, F', s, r', p.bind.mono (fun kd s' p u F2 H2 r2 s3 q2 => ?_) fun x s h => (h σ).mono s2⟩
  have q3 := Rep.keeps (Same.keeps s3) _ _ q'
  split at p
  · rename_i io' x' e3
    split at p
    · rename_i x2 e4
      obtain ⟨pa', o', e5, hf', hp', q5⟩ := r2.owned e3
      rw [e2] at e5; cases e5
      have fin : ∀ o2, OwnObj X.K X.mg F2 x2 o2 → E.nx σ (upd H2 pa o2) := fun o2 q6 => p _ _ _ (r2.mutate e3 e2 q6) (s2.trans s3)
      unfold putO at e4
      split at e4
      · rename_i ds'
        split at e4
        · rename_i j
          obtain ⟨vs', rfl, q6⟩ := q5
          cases e6 : ixN ds'.length j with
          | none => rw [e6] at e4; cases e4
          | some n =>
            rw [e6] at e4; cases e4
            exact .inl ⟨pa, vs', j, n, rfl, Rep.int_ q2, hp', by rw [← q6.len]; exact e6, fin _ ⟨_, rfl, q6.set n q3⟩⟩
        · cases e4
      · rename_i kvs
        split at e4
        · rename_i hz
          obtain ⟨ws, rfl, q6⟩ := q5
          cases e6 : dKeys kd with
          | none => rw [e6] at e4; cases e4
          | some ks =>
            rw [e6] at e4; cases e4
            obtain ⟨b, rfl, hb⟩ := dKeys_rep q2 e6
            exact .inr ⟨pa, _, rfl, .inr ⟨ws, ks, b, hp', rfl, r2.sub _ _ hb, by rw [← q6.len]; exact hz, rfl⟩, fin _ ⟨_, rfl, q6.put ks q3⟩⟩
        · cases e4
      · rename_i kvs
        split at e4
        · rename_i hz
          obtain ⟨ws, rfl, q6⟩ := q5
          cases e6 : dKey kd with
          | none => rw [e6] at e4; cases e4
          | some ks =>
            rw [e6] at e4; cases e4
            have e7 := dKey_rep q2 e6
            exact .inr ⟨pa, _, rfl, .inl ⟨ws, ks, hp', e7, by rw [← q6.len]; exact hz, rfl⟩, fin _ ⟨_, rfl, q6.put ks q3⟩⟩
        · cases e4
      · cases e4
    · exact p.elim
  · exact p.elim
/-! self.f = v -/
def fldO (c f : Str) (x : Own) (v : D) : Option Own := match x with
  | .o c' fs => if c' = c ∧ fs.length < 1000 then some (.o c (putFD f v fs)) else none
  | _ => none
def sFldD (i : Nat) (c f : Str) (g : DS → Res D) : DS → Res Fl := sChg i (fldO c f) g
theorem RepF.put {K : PySem.W.Frag} {mg : Str → Option Value} {F : Hp} {f : Str} {d : D} {v : V} (q : Rep K mg F d v) : ∀ {fs : List (Str × D)} {ws : List (Str × V)}, RepF K mg F fs ws → RepF K mg F (putFD f d fs) (putF f v ws)
  | [], ws, h => by
    unfold RepF at h; subst h
    show RepF K mg F [(f, d)] [(f, v)]
    unfold RepF; exact ⟨v, [], rfl, q, by unfold RepF; rfl⟩
  | p :: fs, ws, h => by
    unfold RepF at h
    obtain ⟨u, r, e, h, t⟩ := h
    subst e
    unfold putFD putF
    by_cases z : p.1 = f
    · rw [if_pos z]
      rw [z, if_pos rfl]
      unfold RepF; exact ⟨v, r, rfl, q, t⟩
    · rw [if_neg z, if_neg z]
      unfold RepF; exact ⟨u, _, rfl, h, RepF.put q t⟩
theorem RepF.len {K : PySem.W.Frag} {mg : Str → Option Value} {F : Hp} : ∀ {fs : List (Str × D)} {ws : List (Str × V)}, RepF K mg F fs ws → fs.length = ws.length
  | [], ws, h => by unfold RepF at h; subst h; rfl
  | p :: fs, ws, h => by
    unfold RepF at h
    obtain ⟨u, r, e, h, t⟩ := h
    subst e; simp [RepF.len t]
theorem ds_fld (i : Nat) {x c f : Str} {p1 p2 : Pos} {g : DS → Res D} (a : AttD X c f) (he : DE X W e g) (hN : X.N[i]? = some x := by rfl) (hv : Vis X.env.scope x := by first | exact Or.inl rfl | exact Or.inr (Or.inl rfl) | exact Or.inr (Or.inr rfl)) (hd : (x == ("__debug__" : Str)) = false := by decide)
    (hcd : (x == ("__classdict__" : Str)) = false := by decide) (hs : swapsWith e (some (.Attribute (.Name x p1) f p2)) pos.line X.env = pure false := by rfl) : DSt X W (.Assign [.Attribute (.Name x p1) f p2] e pos) (sFldD i c f g) := by
  obtain ⟨C, hc, cl, na⟩ := a.ex
  refine PS.imp (ps_fld (pe_var hN hv hd hcd) he hs) fun E σ H ⟨B, F, s, r, p⟩ => ⟨B, F, s, r, p.bind.mono (fun d s' p v F' H' r' s2 q' => ?_) fun x s h => h σ⟩
  split at p
  · rename_i io' x' e3
    split at p
    · rename_i x2 e4
      obtain ⟨pa, o', e5, hf', hp', q5⟩ := r'.owned e3
      unfold fldO at e4
      split at e4
      · rename_i c' fs
        split at e4
        · rename_i hz
          cases e4
          obtain ⟨rfl, hz⟩ := hz
          obtain ⟨C', dx, ws, hm, rfl, q6⟩ := q5
          rw [hc] at hm; cases hm
          exact ⟨.ref pa, e5, pa, C, dx, ws, rfl, hp', cl, na, by rw [← q6.len]; exact hz, p _ _ _ (r'.mutate e3 e5 ⟨C, dx, _, hc, rfl, q6.put q'⟩) s2⟩
        · cases e4
      · cases e4
    · exact p.elim
  · exact p.elim
/-! ### d.get(k, x) -/
def getM (x k d : D) : Option D := (getD2 x k).map fun o => o.getD d
def isDc : D → Bool
  | .dT _ => true
  | .dK _ => true
  | _ => false
def eGet2 (fo fk fd : DS → Res Ar) : DS → Res D := fun s => (fo s).bind fun o s => if (o.d s).any isDc then (fk s).bind fun k s => (fd s).bind fun d s => match o.d s, k.d s, d with
  | some o, some k, .v d => match getM o k d with
    | some r => .ok r s
    | none => .bad
  | _, _, _ => .bad else .bad
theorem de_get2 {k : Nat} {o ek ed : Expr} {apos cpos : Pos} {fo fk fd : DS → Res Ar} (C : Ctx k X W) (ho : DA1 X W o fo) (hk : DA1 X W ek fk) (hd : DA1 X W ed fd)
    (hbase : attributeBase o "get" X.env (eval o X.env) = eval o X.env := by rfl)
    (hfew : ((backTo cpos (starEach [ek, ed] X.env)).all (fun x => !x.1) && (backToKw cpos (keywordEach [] X.env)).all (fun x => x.1.isSome)
      && decide (([ek, ed] : List Expr).length + ([] : List Keyword).length + (if ([] : List Keyword).isEmpty then 0 else 1) < 30)) = true := by rfl)
    (hline : (apos.endLine == cpos.line) = true := by rfl) (htr : backTo cpos (starEach [ek, ed] X.env) = [(false, eval ek X.env), (false, eval ed X.env)] := by rfl) :
    DE X W (.Call (.Attribute o "get" apos) [ek, ed] [] cpos) (eGet2 fo fk fd) := by
  refine PE.imp (pe_dget2 (hu_of C.room) ho hk hd ⟨hbase, hfew, hline, htr⟩) fun σ H Q ⟨B, F, s, r, p⟩ => ⟨B, F, s, r, p.bind.mono (fun ao s1 p v F1 H1 r1 sm1 q1 => ?_) fun x s h => h⟩
  by_cases hl : (ao.d s1).any isDc = true
  case neg => rw [if_neg hl] at p; exact p.elim
  rw [if_pos hl] at p
  obtain ⟨od, eo, hdc⟩ := (Option.any_eq_true _ _).mp hl
  have b1 := q1.brep r1 eo
  have : ∃ a, v = .ref a ∧ IsD H1 a := by
    cases od with
    | dT kvs => obtain ⟨a, ws, rfl, h, _⟩ := b1; exact ⟨a, rfl, .inr ⟨_, h⟩⟩
    | dK kvs => obtain ⟨a, ws, rfl, h, _⟩ := b1; exact ⟨a, rfl, .inl ⟨_, h⟩⟩
    | _ => cases hdc
  obtain ⟨a, rfl, hisd⟩ := this
  refine ⟨a, rfl, hisd, B, F1, s1, r1, p.bind.mono (fun ak s2 p u F2 H2 r2 sm2 q2 => ⟨B, F2, s2, r2, p.bind.mono (fun ad s3 p w F3 H3 r3 sm3 q3 => ?_) fun x s h => h.mono (sm1.trans sm2)⟩) fun x s h => h.mono sm1⟩
  split at p
  · rename_i o' k' d' e1 e2
    split at p
    · rename_i rr e3
      unfold getM at e3
      cases e4 : getD2 o' k' with
      | none => rw [e4] at e3; cases e3
      | some oo =>
        rw [e4] at e3; cases e3
        obtain ⟨a', r', ea, g, h1, h2⟩ := dget_of r3.sub ((q1.keeps (sm2.trans sm3)).brep r3 e1) ((q2.keeps sm3).brep r3 e2) e4
        cases ea
        refine ⟨r', g, p _ F3 H3 r3 ((sm1.trans sm2).trans sm3) ?_⟩
        cases oo with
        | none => rw [h1 rfl]; exact q3
        | some d => obtain ⟨u', rfl, q4⟩ := h2 d rfl; exact q4
    · exact p.elim
  · exact p.elim
/-! ### a < b < c -/
def eChain (fn fn' : D → D → Option D) (fa fb fc : DS → Res Ar) : DS → Res D := fun s => (fa s).bind fun a s => (fb s).bind fun b s => match bind2 (a.d s) (b.d s) fn with
  | some (.bl true) => (fc s).bind fun c s => match bind2 (b.d s) (c.d s) fn' with
    | some d => .ok d s
    | none => .bad
  | some (.bl false) => .ok (.bl false) s
  | _ => .bad
theorem ops2_use {K : PySem.W.Frag} {mg : Str → Option Value} {r : R2} {fn : D → D → Option D} (hs : OpS2 K mg r fn) {B : Base} {F H : Hp} {σ : St} {s : DS} (rl : Rel K mg B F H σ s) {a b : Ar} {v w : V} (qa : ArOk K mg F σ a v) (qb : ArOk K mg F σ b w) {d : D} (e : bind2 (a.d s) (b.d s) fn = some d) {Q : VK}
    (k : ∀ u F' H', Rel K mg B F' H' σ s → Same F F' → Rep K mg F' d u → Q u H') : r v w H Q := by
  unfold bind2 at e
  split at e
  · rename_i x y e1 e2
    refine hs F H x y v w d Q rl.sub (qa.brep rl e1) (qb.brep rl e2) e fun u F' H' g rp => ?_
    obtain ⟨r', s'⟩ := g.rel rl
    exact k u F' H' r' s' rp
  · cases e
theorem chain_d {r r' : R2} {fn fn' : D → D → Option D} {fa fb fc : DS → Res Ar} (hs : OpS2 X.K X.mg r fn) (hs' : OpS2 X.K X.mg r' fn') {σ : St} {H : Hp} {Q : VK} (h : tD X.K X.mg W (eChain fn fn' fa fb fc) σ H Q) : tChain r r' (tD1 X.K X.mg W fa) (tD1 X.K X.mg W fb) (tD1 X.K X.mg W fc) σ H Q := by
  obtain ⟨B, F, s, rl, p⟩ := h
  refine ⟨B, F, s, rl, p.bind.mono (fun a s1 p v F1 H1 r1 sm1 q1 => ⟨B, F1, s1, r1, p.bind.mono (fun b s2 p w F2 H2 r2 sm2 q2 => ?_) fun x s h => h.mono sm1⟩) fun x s h => h⟩
  split at p
  · rename_i e1
    refine ops2_use hs r2 (q1.keeps sm2) q2 e1 fun u F3 H3 r3 sm3 rp => ⟨true, Rep.bl_ rp, iteT ⟨B, F3, s2, r3, p.bind.mono (fun c s3 p z F4 H4 r4 sm4 q4 => ?_) fun x s h => h.mono ((sm1.trans sm2).trans sm3)⟩⟩
    split at p
    · rename_i d e2
      exact ops2_use hs' r4 (q2.keeps (sm3.trans sm4)) q4 e2 fun u F5 H5 r5 sm5 rp5 => p u F5 H5 r5 ((((sm1.trans sm2).trans sm3).trans sm4).trans sm5) rp5
    · exact p.elim
  · rename_i e1
    refine ops2_use hs r2 (q1.keeps sm2) q2 e1 fun u F3 H3 r3 sm3 rp => ⟨false, Rep.bl_ rp, iteF (p _ F3 H3 r3 ((sm1.trans sm2).trans sm3) Rep.bl)⟩
  · exact p.elim
variable {a b c : Expr}
theorem de_chain {op op' : CmpOp} {r r' : R2} {fn fn' : D → D → Option D} {fa fb fc : DS → Res Ar} (ho : OpR X (compareOp op) r) (ho' : OpR X (compareOp op') r') (hs : OpS2 X.K X.mg r fn) (hs' : OpS2 X.K X.mg r' fn') (ha : DA1 X W a fa) (hb : DA1 X W b fb) (hc : DA1 X W c fc)
    (hm : lastMarks [op, op'] [b, c] = false := by with_unfolding_all rfl) : DE X W (.Compare a [op, op'] [b, c] pos) (eChain fn fn' fa fb fc) := PE.imp (pe_chain ho ho' ha hb hc hm) fun _ _ _ h => chain_d hs hs' h
theorem dt_chain {op op' : CmpOp} {r r' : R2} {fn fn' : D → D → Option D} {fa fb fc : DS → Res Ar} (ho : OpR X (compareOp op) r) (ho' : OpR X (compareOp op') r') (hs : OpS2 X.K X.mg r fn) (hs' : OpS2 X.K X.mg r' fn') (ha : DA1 X W a fa) (hb : DA1 X W b fb) (hc : DA1 X W c fc)
    (hm : lastMarks [op, op'] [b, c] = false := by with_unfolding_all rfl) : DT X W (.Compare a [op, op'] [b, c] pos) (tB (eChain fn fn' fa fb fc)) :=
  PT.imp (pt_chain ho ho' ha hb hc hm) fun _ _ _ h => chain_d hs hs' (tb_of h)
/-! ### while -/
def whileM (c : DS → Res Bool) (b : DS → Res Fl) : Nat → DS → Option (Res Fl)
  | 0, _ => none
  | n + 1, s => match c s with
    | .ok true s => match b s with
      | .ok .nx s => whileM c b n s
      | .ok .ct s => whileM c b n s
      | .ok .bk s => some (.ok .nx s)
      | r => some r
    | .ok false s => some (.ok .nx s)
    | .ex x s => some (.ex x s)
    | .bad => some .bad
open Classical in
noncomputable def sWhile (c : DS → Res Bool) (b : DS → Res Fl) : DS → Res Fl := fun s => if h : ∃ n, (whileM c b n s).isSome = true then ((whileM c b h.choose s).getD .bad) else .bad
theorem whileM_succ {c : DS → Res Bool} {b : DS → Res Fl} : ∀ {n : Nat} {s : DS} {r : Res Fl}, whileM c b n s = some r → ∀ m, n ≤ m → whileM c b m s = some r
  | 0, s, r, e, _, _ => by cases e
  | n + 1, s, r, e, 0, h => by omega
  | n + 1, s, r, e, m + 1, h => by
    unfold whileM at e ⊢
    cases hc : c s with
    | ok t s1 =>
      rw [hc] at e
      cases t with
      | true =>
        dsimp only at e ⊢
        cases hb : b s1 with
        | ok fl s2 =>
          rw [hb] at e
          cases fl with
          | nx => exact whileM_succ e m (by omega)
          | ct => exact whileM_succ e m (by omega)
          | bk => exact e
          | rt d => exact e
        | ex x s2 => rw [hb] at e; exact e
        | bad => rw [hb] at e; exact e
      | false => exact e
    | ex x s1 => rw [hc] at e; exact e
    | bad => rw [hc] at e; exact e
theorem sWhile_eq {c : DS → Res Bool} {b : DS → Res Fl} {n : Nat} {s : DS} {r : Res Fl} (e : whileM c b n s = some r) : sWhile c b s = r := by
  unfold sWhile
  have h : ∃ n, (whileM c b n s).isSome = true := ⟨n, by rw [e]; rfl⟩
  rw [dif_pos h]
  have h2 := h.choose_spec
  cases e2 : whileM c b h.choose s with
  | none => rw [e2] at h2; cases h2
  | some r2 =>
    have a1 := whileM_succ e (max n h.choose) (Nat.le_max_left _ _)
    have a2 := whileM_succ e2 (max n h.choose) (Nat.le_max_right _ _)
    rw [a1] at a2
    cases a2
    rfl
theorem sWhile_some {c : DS → Res Bool} {b : DS → Res Fl} {s : DS} (h : sWhile c b s ≠ .bad) : ∃ n, whileM c b n s = some (sWhile c b s) := by
  by_cases hn : ∃ n, (whileM c b n s).isSome = true
  · obtain ⟨n, hn⟩ := hn
    cases e : whileM c b n s with
    | none => rw [e] at hn; cases hn
    | some r => exact ⟨n, by rw [sWhile_eq e]; exact e⟩
  · exfalso
    apply h
    unfold sWhile
    rw [dif_neg hn]
theorem ds_while {k : Nat} {body : List Stmt} {fc : DS → Res Bool} {fb : DS → Res Fl} (C : Ctx k X W) (hc : DT X W c fc) (hb : DSs X W body fb) : DSt X W (.While c body [] pos) (sWhile fc fb) := by
  refine PS.imp (ps_while C.po hc hb) fun E σ H ⟨B, F, s, r, p⟩ => ?_
  have hne : sWhile fc fb s ≠ .bad := fun z => by rw [z] at p; exact p.elim
  obtain ⟨n, en⟩ := sWhile_some hne
  let G : Hp → Res Fl → Prop := fun F' r => Post B F' r (fun fl ds' => FlPost X.K X.mg B F' E ds' fl) (fun x s => ∀ σ', Raised X.K X.mg B F' W σ' x s)
  refine ⟨fun m σ H => ∃ F' s' r', Rel X.K X.mg B F' H σ s' ∧ whileM fc fb m s' = some r' ∧ G F' r', ⟨n, F, s, _, r, en, p⟩, ?_⟩
  rintro m σ1 H1 ⟨F1, s1, r1, rl, e1, g⟩
  refine ⟨B, F1, s1, rl, ?_⟩
  cases m with
  | zero => cases e1
  | succ m =>
    unfold whileM at e1
    cases hcs : fc s1 with
    | bad => rw [hcs] at e1; cases e1; exact g.elim
    | ex x s2 => rw [hcs] at e1; cases e1; exact g σ1
    | ok t s2 =>
      rw [hcs] at e1
      cases t with
      | false =>
        cases e1
        intro F2 H2 r2 sm2
        exact iteF (g _ F2 H2 r2 sm2)
      | true =>
        intro F2 H2 r2 sm2
        refine iteT ⟨fun σ' H' => ∃ m', m' < m + 1 ∧ ∃ F' s' r', Rel X.K X.mg B F' H' σ' s' ∧ whileM fc fb m' s' = some r' ∧ G F' r', fun _ _ h => h, B, F2, s2, r2, ?_⟩
        dsimp only at e1
        have gm : ∀ {r : Res Fl} {F' : Hp}, Same F1 F' → G F1 r → G F' r := fun {r F'} sm g => g.mono (fun fl s h => h.mono sm) fun x s h σ => (h σ).mono sm
        cases hbs : fb s2 with
        | bad => rw [hbs] at e1; cases e1; exact g.elim
        | ex x s3 => rw [hbs] at e1; cases e1; exact fun σ' => Raised.mono sm2 (g σ')
        | ok fl s3 =>
          rw [hbs] at e1
          cases fl with
          | nx => exact fun σ' F' H' r' sm => ⟨m, Nat.lt_succ_self _, F', s3, _, r', e1, gm (sm2.trans sm) g⟩
          | ct => exact fun σ' F' H' r' sm => ⟨m, Nat.lt_succ_self _, F', s3, _, r', e1, gm (sm2.trans sm) g⟩
          | bk => cases e1; exact fun σ' F' H' r' sm => g σ' F' H' r' (sm2.trans sm)
          | rt d => cases e1; exact fun v σ' F' H' r' sm q => g v σ' F' H' r' (sm2.trans sm) q
end
end DL

set_option autoImplicit true
/-! D-layer, part n: what is walked: range, enumerate, zip, values. -/
namespace DL
open PySem PySem.Spec PyProof.Rows L2
set_option autoImplicit false
/-! ### a list or a tuple as a source -/
/-- b: a list, else a tuple -/
def SqX (K : PySem.W.Frag) (b : Bool) (H : Hp) (a : Addr) (xs : List V) : Prop := match b with
  | true => SqL K H a xs
  | false => SqT K H a xs
def ItX (b : Bool) (h : Heap) (it a : Addr) (i : Nat) : Prop := match b with
  | true => h.IsListIter it a i
  | false => h.IsTupleIter it a i
def SrX (b : Bool) (h : Heap) (a : Addr) (its : Array Value) : Prop := match b with
  | true => h.IsList a its
  | false => h.IsTuple a its
def itO (b : Bool) (a : Addr) : Obj := match b with
  | true => { cls := .type "list_iterator", data := .fields #[.ref a, .int 0 0] }
  | false => { cls := .type "tuple_iterator", data := .fields #[.ref a, .int 0 0] }
theorem draws_x {prog : Program} {w : World} {A : Around} (hh : A.handled = none) (b : Bool) (it l : Addr) (hne : l ≠ it) (items : Array Value) :
    Draws prog w A it [it, l] items.size (fun i v => items[i]? = some v) (fun i h => ItX b h it l i ∧ SrX b h l items) := by
  cases b with
  | true => exact Draws.list hh it l hne items
  | false => exact Draws.tuple hh it l hne items
theorem begins_x (b : Bool) (a : Addr) (items : Array Value) : Begins (.ref a) (itO b a) fun h => SrX b h a items := by
  cases b with
  | true => exact begins_list a items
  | false => exact begins_tuple a items
theorem itx_new {b : Bool} {h : Heap} {it a : Addr} (e : h.get? it = some (itO b a)) : ItX b h it a 0 := by
  cases b with
  | true => exact ⟨_, e, rfl, rfl⟩
  | false => exact ⟨_, e, rfl, rfl⟩
theorem itx_obj {b : Bool} {h : Heap} {it a : Addr} {i : Nat} (e : ItX b h it a i) : ∃ o, h.get? it = some o ∧ ∀ v, o.data ≠ .cell v := by
  cases b with
  | true => obtain ⟨o, e, c, d⟩ := e; exact ⟨o, e, fun v z => by rw [d] at z; cases z⟩
  | false => obtain ⟨o, e, c, d⟩ := e; exact ⟨o, e, fun v z => by rw [d] at z; cases z⟩
theorem itx_at {b : Bool} {h h' : Heap} {it a : Addr} {i : Nat} (e : ItX b h it a i) (k : ∀ o, h.get? it = some o → h'.get? it = some o) : ItX b h' it a i := by
  cases b with
  | true => exact Heap.IsListIter.at e k
  | false => exact Heap.IsTupleIter.at e k
section
variable {X : Cx} {pins : List (Addr × Obj)} {σ : St} {H : Hp} {s : Shared}
theorem inv_x {b : Bool} {a : Addr} {xs : List V} (I : Inv X pins σ H s) (h : SqX X.K b H a xs) : ∃ its : List Value, Vals xs its ∧ SrX b s.heap a its.toArray := by
  cases b with
  | true => obtain ⟨its, r, p, _⟩ := I.list h; exact ⟨its, r, p.isList⟩
  | false => obtain ⟨its, r, p, _⟩ := I.tuple h; exact ⟨its, r, p⟩
theorem inj_x {b : Bool} {a : Addr} {xs ys : List V} (I : Inv X pins σ H s) (h : SqX X.K b H a xs) (h' : SqX X.K b H a ys) : xs = ys := by
  cases b with
  | true => exact I.list_inj h h'
  | false => exact I.tuple_inj h h'
end
theorem srx_lt {b : Bool} {h : Heap} {a : Addr} {its : Array Value} (e : SrX b h a its) : a < h.objs.size := by
  cases b with
  | true => obtain ⟨_, e, _⟩ := e; exact Heap.lt_size e
  | false => obtain ⟨_, e, _⟩ := e; exact Heap.lt_size e
theorem sqx_keeps {K : PySem.W.Frag} {F H : Hp} (sm : Same F H) {b : Bool} {a : Addr} {xs : List V} (h : SqX K b F a xs) : SqX K b H a xs := by
  cases b with
  | true => exact (Same.keeps sm).sqL h
  | false => exact h.elim (fun h => .inl (Same.rd sm h)) .inr
/-! ### enumerate -/
def Jenum (K : PySem.W.Frag) (b : Bool) (a : Addr) : It :=
  ⟨fun i H => ∃ (xs : List V) (x : V), SqX K b H a xs ∧ xs[i]? = some x, fun i H v H' => ∃ T x, v = .ref T ∧ H T = none ∧ H' = upd H T (.tup [.int (i : Nat), x]) ∧ ∀ xs, SqX K b H a xs → xs[i]? = some x, fun i H => ∃ xs : List V, SqX K b H a xs ∧ xs.length = i⟩
theorem tup_new {X : Cx} {pins : List (Addr × Obj)} {σ : St} {H : Hp} {s : Shared} {h' : Heap} {tk : Nat} {ch : List Addr} {T : Addr} {xs : List V} {us : List Value} (I : Inv X pins σ H s) (k : ∀ b o, b ∉ ch → s.heap.get? b = some o → h'.get? b = some o) (hf : ∀ b ∈ ch, FpOk X pins H b) (hT : s.heap.objs.size ≤ T)
    (hz : xs.length ≤ 1000) (r : Vals xs us) (ht : h'.IsTuple T us.toArray) : Inv X pins σ (upd H T (.tup xs)) { s with heap := h', toks := tk } :=
  I.turnedNew k hf hT ⟨Nat.le_of_lt (small1000 hz), us, r, ht⟩
theorem turn_enumX {P : Program} {w : World} {K : PySem.W.Frag} {elts : List Expr} {kk : Nat} {tpos : Pos} (b : Bool) (a e it : Addr) (hae : a ≠ e) (hai : a ≠ it) (hne : e ≠ it) :
    Turn P w K (.Tuple elts kk tpos) (Jenum K b a) [e, it] e (fun i h => (∃ old, IsEnum h e it (0 + (i : Int)) old) ∧ ItX b h it a i) where
  mem := by simp
  obj := fun i h st c hc => by
    obtain ⟨⟨old, he⟩, hi⟩ := st
    have e' : c = e ∨ c = it := by simpa using hc
    rcases e' with rfl | rfl
    · exact ⟨_, he, fun v q => nomatch q⟩
    · exact itx_obj hi
  keep := fun i h h' st k => let ⟨⟨old, he⟩, hi⟩ := st; ⟨⟨old, k e (by simp) _ he⟩, itx_at hi fun o q => k it (by simp) o q⟩
  item := by
    intro X hP hw hK hc i pins s σ H E I hf st hg
    subst hP hw hK
    obtain ⟨⟨old, he⟩, hit⟩ := st
    obtain ⟨xs, x, hq, hx⟩ := hg
    obtain ⟨its, rv, p⟩ := inv_x I hq
    obtain ⟨u, hu, ru⟩ := rv.get hx
    have hi : i < its.toArray.size := by
      have := (List.getElem?_eq_some_iff.mp hu).1
      simpa using this
    have G := GoesN.enumFrom (prog := X.prog) (w := X.w) (A := X.A) (elts := elts) (x1 := kk) (pos := tpos) 0 (draws_x (show X.A.in1.handled = none from I.ok.hd hc) b it a hai its.toArray) e hne (by simp [hne, Ne.symm hae]) (by simp)
    refine G.goes i s (fun v s2 => ∃ x H', Inv X pins σ H' s2 ∧ RelV x v ∧ (Jenum X.K b a).yld i H x H' ∧ ((∃ old, IsEnum s2.heap e it (0 + ((i + 1 : Nat) : Int)) old) ∧ ItX b s2.heap it a (i + 1)) ∧ ∀ c ∈ [e, it], H' c = none) _ hi ⟨⟨old, he⟩, hit, p⟩ ?_
    rintro v h' tk ⟨T, t, y, rfl, hT, hy, ht⟩ ⟨he', hit', _⟩ hk _
    have hy : its[i]? = some y := by simpa using hy
    rw [hu] at hy; cases hy
    refine ⟨.ref T, _, tup_new I hk hf hT (by simp) (.cons (show RelV (.int (i : Int)) (Value.int (0 + (i : Int)) t) from ⟨t, by rw [Int.zero_add]⟩) (.cons ru .nil)) ht, rfl, ⟨T, x, rfl, I.hok.fresh hT, rfl, fun ys hy => by rw [inj_x I hy hq]; exact hx⟩, ⟨he', hit'⟩, fun c hcm => ?_⟩
    have hlt : c < s.heap.objs.size := by
      have e' : c = e ∨ c = it := by simpa using hcm
      rcases e' with rfl | rfl
      · exact Heap.lt_size he
      · obtain ⟨o, eo, _⟩ := itx_obj hit; exact Heap.lt_size eo
    rw [upd_ne (Nat.ne_of_lt (Nat.lt_of_lt_of_le hlt hT))]
    exact (hf c hcm).1
  done := by
    intro X hP hw hK hc i pins s σ H E I hf st hg
    subst hP hw hK
    obtain ⟨⟨old, he⟩, hit⟩ := st
    obtain ⟨xs, hq, hx⟩ := hg
    obtain ⟨its, rv, p⟩ := inv_x I hq
    have hi : i = its.toArray.size := by rw [List.size_toArray, ← rv.length, hx]
    have G := GoesN.enumFrom (prog := X.prog) (w := X.w) (A := X.A) (elts := elts) (x1 := kk) (pos := tpos) 0 (draws_x (show X.A.in1.handled = none from I.ok.hd hc) b it a hai its.toArray) e hne (by simp [hne, Ne.symm hae]) (by simp)
    exact G.stops s _ _ (by rw [← hi]; exact ⟨⟨old, he⟩, hit, p⟩) fun h' tk hk _ => I.turnedL hk hf
  self := fun A i s Q E st h => let ⟨⟨_, he⟩, _⟩ := st; wpAny_pyIter_enum he h
def isLT2 : D → Option (Bool × List D)
  | .lst l => some (true, l)
  | .tup l => some (false, l)
  | _ => none
def enumL : Nat → List D → List D
  | _, [] => []
  | n, d :: ds => .tup [.int n, d] :: enumL (n + 1) ds
theorem enumL_get : ∀ {ds : List D} {n i : Nat} {d : D}, ds[i]? = some d → (enumL n ds)[i]? = some (.tup [.int ((n + i : Nat)), d])
  | d :: ds, n, 0, x, e => by simp at e; subst e; rfl
  | d :: ds, n, i + 1, x, e => by
    have := enumL_get (n := n + 1) (show ds[i]? = some x by simpa using e)
    show (enumL (n + 1) ds)[i]? = _
    rw [this]
    congr 5
    omega
theorem enumL_len : ∀ (ds : List D) (n : Nat), (enumL n ds).length = ds.length
  | [], n => rfl
  | d :: ds, n => by show (enumL (n + 1) ds).length + 1 = _; rw [enumL_len ds]; rfl
theorem rep_x {K : PySem.W.Frag} {mg : Str → Option Value} {F : Hp} {d : D} {v : V} {b : Bool} {l : List D} (h : Rep K mg F d v) (e : isLT2 d = some (b, l)) : ∃ a vs, v = .ref a ∧ SqX K b F a vs ∧ Reps K mg F l vs ∧ (F a = some (.lst vs) ∨ F a = some (.tup vs)) := by
  unfold isLT2 at e
  split at e
  · cases e
    obtain ⟨a, vs, rfl, q, r⟩ := h.lst_
    exact ⟨a, vs, rfl, .of q, r, .inl q⟩
  · cases e
    obtain ⟨a, vs, rfl, q, r⟩ := h.tup_
    exact ⟨a, vs, rfl, .of q, r, .inr q⟩
  · cases e
/-- in H the source is what it was in F -/
theorem sqx_eq {K : PySem.W.Frag} {F H : Hp} (sm : Same F H) {b : Bool} {a : Addr} {vs xs : List V} (q : F a = some (.lst vs) ∨ F a = some (.tup vs)) (h : SqX K b H a xs) (hs : SqX K b H a vs → SqX K b H a xs → vs = xs) (q2 : SqX K b F a vs) : vs = xs := hs (sqx_keeps sm q2) h
def enumD (f : DS → Res D) : DS → Res (List D) := fun s => (f s).bind fun d s => match isLT2 d with
  | some (_, l) => .ok (enumL 0 l) s
  | none => .bad
section
variable {X : Cx} {W : WX} {pos p : Pos} {e : Expr} {tg : Expr}
theorem meets_enum1 {v : Value} {o : Obj} {Hq : Heap → Prop} (Bg : Begins v o Hq) :
    Meets (Builtin.«enumerate.__new__» ⟨[.type "enumerate", v], []⟩) (fun _ R s => Hq s.heap ∧
      R (.ok (.ret (.ref (s.heap.push o).objs.size))) { s with heap := (s.heap.push o).push { cls := .type "enumerate", data := .fields #[.none, .bool false, .ref s.heap.objs.size, rawInt 0, .none, .none] } }) :=
  .of_wp fun prog w A R s hyp => by
    obtain ⟨hp1, gens1, drawn1, toks1, outs1⟩ := s
    obtain ⟨held, goal⟩ := hyp
    have is_enum := sub_enumerate
    have itq : ∀ {A' : Around} {E : Value → Shared → Prop} {Q : Value → Shared → Prop}, Q (.ref hp1.objs.size) ⟨hp1.push o, gens1, drawn1, toks1, outs1⟩ → wpAny (model prog w) A' (pyIter v) Q E ⟨hp1, gens1, drawn1, toks1, outs1⟩ :=
      fun q => Bg.iter prog w _ _ ⟨hp1, gens1, drawn1, toks1, outs1⟩ _ held q
    wp_walk using itq
    refine wpAny_stack_any fun stk => wpAny_pure ?_
    split
    · rename_i cc _ _ _ _ _
      cases (cc == Value.type "enumerate")
      · wp_walk using itq
        exact ⟨_, rfl, goal⟩
      · wp_walk using itq
        exact ⟨_, rfl, goal⟩
    · wp_walk using itq
      exact ⟨_, rfl, goal⟩
theorem enum_begins1 {prog : Program} {w : World} {A : Around} {E : Value → Shared → Prop} {s : Shared} {v : Value} {o : Obj} {Hq : Heap → Prop} {Q : Value → Shared → Prop} (Bg : Begins v o Hq) (held : Hq s.heap)
    (h : ∀ h', IsEnum h' (s.heap.objs.size + 1) s.heap.objs.size 0 .none → h'.get? s.heap.objs.size = some o → (∀ b o, s.heap.get? b = some o → h'.get? b = some o) → Q (.ref (s.heap.objs.size + 1)) { s with heap := h' }) :
    wpAny (model prog w) A (call (.type "enumerate") [v]) Q E s := by
  refine callType_new F.called_enumerate (by decide) (F.typeCall_enumerate_1 _) (F.newCall_enumerate_1 _) (fun obj => F.args_object_init_2 obj _) F.entry_enumerate_new (meets_enum1 Bg) ⟨held, ?_⟩
  have size1 : (s.heap.push o).objs.size = s.heap.objs.size + 1 := Heap.size_push ..
  show _ ∧ _
  rw [size1]
  have at1 := Heap.get?_push_size (s.heap.push o) (o := { cls := .type "enumerate", data := .fields #[.none, .bool false, .ref s.heap.objs.size, rawInt 0, .none, .none] }) rfl
  rw [size1] at at1
  exact ⟨⟨_, at1, rfl⟩, h _ at1 (Heap.get?_push_of_some _ (Heap.get?_push_size _ Bg.free)) fun b o x => Heap.get?_push_of_some _ (Heap.get?_push_of_some _ x)⟩
def iEnumX (K : PySem.W.Frag) (ta : TA) : TI := fun σ H R => ta σ H fun vs H1 => ∃ b a xs, vs = [.ref a] ∧ SqX K b H1 a xs ∧ R (Jenum K b a) H1
theorem itO_free {b : Bool} {a : Addr} : (itO b a).isFreed = false := (begins_x b a #[]).free
theorem pi_enumX {ta : TA} {elts : List Expr} {kk : Nat} {tpos : Pos} (hg : Gl X "enumerate") (hm : X.mg "enumerate" = none) (ha : PA X [e] ta) (hs : starEach [e] X.env = [(false, eval e X.env)] := by rfl) :
    PI X (.Tuple elts kk tpos) (.Call (.Name "enumerate" p) [e] [] pos) (iEnumX X.K ta) := by
  refine ⟨fun pins s σ H R I h => ?_⟩
  refine Call_ (ld_blt I hg hm boot_enumerate (PyProof.Rows.callWith_type1 (thn (ha.run pos pins s σ H _ I h) fun us s1 ⟨vs, H1, I1, r1, qq⟩ => ?_) hs rfl))
  obtain ⟨b, a, xs, rfl, hq, q⟩ := qq
  cases r1 with
  | cons r rr =>
    cases rr; cases r
    obtain ⟨its, rv, p'⟩ := inv_x I1 hq
    have hal := srx_lt p'
    refine enum_begins1 (begins_x b a its.toArray) p' fun h' he hit hk => wpAny_pyIter_enum he ?_
    have I2 : Inv X pins σ H1 { s1 with heap := h' } := I1.kept (t' := s1.toks) hk
    refine ⟨s1.heap.objs.size + 1, [s1.heap.objs.size + 1, s1.heap.objs.size], _, _, H1, rfl, I2, turn_enumX b a (s1.heap.objs.size + 1) s1.heap.objs.size (Nat.ne_of_lt (Nat.lt_succ_of_lt hal)) (Nat.ne_of_lt hal) (Nat.succ_ne_self _), ⟨⟨.none, he⟩, itx_new hit⟩, fun c hc => ?_, q⟩
    have hle : s1.heap.objs.size ≤ c := by
      have e' : c = s1.heap.objs.size + 1 ∨ c = s1.heap.objs.size := by simpa using hc
      rcases e' with z | z
      · rw [z]; exact Nat.le_add_right _ _
      · rw [z]; exact Nat.le_refl _
    exact I1.fpOk hle (I1.hok.fresh hle)
theorem reps_lookX {K : PySem.W.Frag} {mg : Str → Option Value} {F F' H' : Hp} {b : Bool} {a : Addr} {vs : List V} {l : List D} (q : SqX K b F a vs) (rp : Reps K mg F l vs) (s1 : Same F F') (s2 : Same F' H') {i : Nat} (hi : i < l.length) : ∃ v, SqX K b H' a vs ∧ vs[i]? = some v ∧ l[i]? = some l[i] ∧ Rep K mg F' l[i] v := by
  obtain ⟨v, e, r⟩ := rp.get (List.getElem?_eq_getElem hi)
  exact ⟨v, sqx_keeps (s1.trans s2) q, e, List.getElem?_eq_getElem hi, Rep.keeps (Same.keeps s1) _ _ r⟩
theorem walk_enum {K : PySem.W.Frag} {mg : Str → Option Value} {F : Hp} {b : Bool} {a : Addr} {vs : List V} {l : List D} (q : SqX K b F a vs) (rp : Reps K mg F l vs) : WalkD K mg (fun _ => True) (Jenum K b a) F (enumL 0 l) where
  go := fun i F' H' s1 s2 _ hi => by
    rw [enumL_len] at hi
    obtain ⟨v, h1, h2, _⟩ := reps_lookX q rp s1 s2 hi
    exact ⟨vs, v, h1, h2⟩
  yld := fun i F' H' x H'' s1 s2 _ hi y => by
    rw [enumL_len] at hi
    obtain ⟨v, h1, h2, h3, h4⟩ := reps_lookX q rp s1 s2 hi
    obtain ⟨T, x', rfl, hT, rfl, hx⟩ := y
    have := hx vs h1
    rw [h2] at this; cases this
    refine ⟨_, _, enumL_get h3, .one hT, ?_⟩
    rw [Nat.zero_add]
    exact Rep.tup_new (.cons Rep.int (.cons h4 .nil)) (Same.none s2 hT)
  stop := fun i F' H' s1 s2 _ hi => ⟨vs, sqx_keeps (s1.trans s2) q, by rw [hi, enumL_len, rp.len]⟩
def eD (f : DS → Res D) : DS → Res (List Ar) := asCons (aOf f) asNil
theorem pa_d {f : DS → Res D} (he : DE X W e f) (hs : starEach [e] X.env = (false, eval e X.env) :: starEach [] X.env := by rfl) : PA X [e] (tCons (tD X.K X.mg W f) tNil) := pa_cons he pa_nil hs
theorem di_enum {f : DS → Res D} {elts : List Expr} {kk : Nat} {tpos : Pos} (hm : X.mg "enumerate" = none) (he : DE X W e f) (hg : Gl X "enumerate" := by rfl) (hs : starEach [e] X.env = [(false, eval e X.env)] := by rfl) (hs2 : starEach [e] X.env = (false, eval e X.env) :: starEach [] X.env := by rfl) :
    DI X W (.Tuple elts kk tpos) (.Call (.Name "enumerate" p) [e] [] pos) (enumD f) := by
  refine PI.imp (pi_enumX hg hm (pa_d he hs2) hs) fun σ H R ⟨B, F, ds, r, p⟩ => ⟨B, F, ds, r, p.bind.mono (fun d s p v F' H' r' s' q => ?_) fun _ _ h => h⟩
  cases e2 : isLT2 d with
  | none => rw [e2] at p; exact p.elim
  | some bl =>
    rw [e2] at p
    obtain ⟨b, l⟩ := bl
    obtain ⟨a, vs, rfl, sq, rp, _⟩ := rep_x q e2
    exact ⟨b, a, vs, rfl, sqx_keeps r'.sub sq, p _ F' H' r' s' (walk_enum sq rp)⟩
end
/-! ### zip -/
def Jzip (K : PySem.W.Frag) (b c : Bool) (a a2 : Addr) : It :=
  ⟨fun i H => ∃ (xs ys : List V) (x y : V), SqX K b H a xs ∧ SqX K c H a2 ys ∧ xs[i]? = some x ∧ ys[i]? = some y, fun i H v H' => ∃ T x y, v = .ref T ∧ H T = none ∧ H' = upd H T (.tup [x, y]) ∧ (∀ xs, SqX K b H a xs → xs[i]? = some x) ∧ ∀ ys, SqX K c H a2 ys → ys[i]? = some y,
    fun i H => ∃ xs ys : List V, SqX K b H a xs ∧ SqX K c H a2 ys ∧ i = min xs.length ys.length⟩
/-- the five cells of a zip made at n -/
abbrev zipC (n : Nat) : List Addr := [n + 4, n + 2, n + 3, n, n + 1]
theorem turn_zipX {P : Program} {w : World} {K : PySem.W.Frag} {elts : List Expr} {kk : Nat} {tpos : Pos} (b c : Bool) (a a2 : Addr) (n : Nat) (ha : a < n) (ha2 : a2 < n) :
    Turn P w K (.Tuple elts kk tpos) (Jzip K b c a a2) (zipC n) (n + 4) (fun i h => IsZip h (n + 4) (n + 2) (n + 3) .none ∧ IsTupOf2 h (n + 2) (.ref n) (.ref (n + 1)) ∧ (∃ a1 a2, IsTupOf2 h (n + 3) a1 a2) ∧ ItX b h n a i ∧ ItX c h (n + 1) a2 i) where
  mem := by simp
  obj := fun i h st k hk => by
    obtain ⟨hz, hT, ⟨_, _, hO⟩, h1, h2⟩ := st
    have e' : k = n + 4 ∨ k = n + 2 ∨ k = n + 3 ∨ k = n ∨ k = n + 1 := by simpa using hk
    rcases e' with z | z | z | z | z
    · rw [z]; exact ⟨_, hz, fun v q => nomatch q⟩
    · rw [z]; exact ⟨_, hT, fun v q => nomatch q⟩
    · rw [z]; exact ⟨_, hO, fun v q => nomatch q⟩
    · rw [z]; exact itx_obj h1
    · rw [z]; exact itx_obj h2
  keep := fun i h h' st k => by
    obtain ⟨hz, hT, ⟨x, y, hO⟩, h1, h2⟩ := st
    exact ⟨k _ (by simp) _ hz, k _ (by simp) _ hT, ⟨x, y, k _ (by simp) _ hO⟩, itx_at h1 fun o q => k _ (by simp) o q, itx_at h2 fun o q => k _ (by simp) o q⟩
  item := by
    intro X hP hw hK hc i pins s σ H E I hf st hg
    subst hP hw hK
    obtain ⟨hz, hT, hO, h1, h2⟩ := st
    obtain ⟨xs, ys, x, y, hq, hq2, hx, hy⟩ := hg
    obtain ⟨its, rv, p⟩ := inv_x I hq
    obtain ⟨its2, rv2, p2⟩ := inv_x I hq2
    obtain ⟨u, hu, ru⟩ := rv.get hx
    obtain ⟨u2, hu2, ru2⟩ := rv2.get hy
    have hi : i < min its.toArray.size its2.toArray.size := by
      have l1 := (List.getElem?_eq_some_iff.mp hu).1
      have l2 := (List.getElem?_eq_some_iff.mp hu2).1
      simp only [List.size_toArray]
      omega
    have hh : X.A.in1.handled = none := I.ok.hd hc
    have G := GoesN.zip2 (prog := X.prog) (w := X.w) (A := X.A) (elts := elts) (x1 := kk) (pos := tpos) (zip_sep2 (N := n) (fp1 := [a]) (fp2 := [a2]) (by simpa using ha) (by simpa using ha2)) (draws_x hh b n a (Nat.ne_of_lt ha) its.toArray) (draws_x hh c (n + 1) a2 (Nat.ne_of_lt (Nat.lt_succ_of_lt ha2)) its2.toArray)
    refine G.goes i s (fun v s2 => ∃ x H', Inv X pins σ H' s2 ∧ RelV x v ∧ (Jzip X.K b c a a2).yld i H x H' ∧ (IsZip s2.heap (n + 4) (n + 2) (n + 3) .none ∧ IsTupOf2 s2.heap (n + 2) (.ref n) (.ref (n + 1)) ∧ (∃ a1 a2, IsTupOf2 s2.heap (n + 3) a1 a2) ∧ ItX b s2.heap n a (i + 1) ∧ ItX c s2.heap (n + 1) a2 (i + 1)) ∧ ∀ c ∈ zipC n, H' c = none) _ hi ⟨hz, hT, hO, ⟨h1, p⟩, ⟨h2, p2⟩⟩ ?_
    rintro v h' tk ⟨T, y1, y2, rfl, hN, e1, e2, ht⟩ ⟨g1, g2, g3, ⟨g4, _⟩, ⟨g5, _⟩⟩ hk _
    have e1 : its[i]? = some y1 := by simpa using e1
    have e2 : its2[i]? = some y2 := by simpa using e2
    rw [hu] at e1; cases e1
    rw [hu2] at e2; cases e2
    have hk' : ∀ b o, b ∉ zipC n → s.heap.get? b = some o → h'.get? b = some o := fun b o hb e => hk b o (fun z => hb (by
      have : b = n + 4 ∨ b = n + 3 ∨ b = n ∨ b = n + 1 := by simpa using z
      rcases this with z | z | z | z <;> simp [z])) e
    refine ⟨.ref T, _, tup_new (us := [u, u2]) I hk' hf hN (by simp) (.cons ru (.cons ru2 .nil)) ht, rfl, ⟨T, x, y, rfl, I.hok.fresh hN, rfl, fun zs hz => by rw [inj_x I hz hq]; exact hx, fun zs hz => by rw [inj_x I hz hq2]; exact hy⟩, ⟨g1, g2, g3, g4, g5⟩, fun k hk => ?_⟩
    have hlt : k < s.heap.objs.size := by
      have e' : k = n + 4 ∨ k = n + 2 ∨ k = n + 3 ∨ k = n ∨ k = n + 1 := by simpa using hk
      have := Heap.lt_size hz
      rcases e' with z | z | z | z | z <;> rw [z]
      · exact this
      · exact Heap.lt_size hT
      · obtain ⟨_, _, hO⟩ := hO; exact Heap.lt_size hO
      · obtain ⟨o, eo, _⟩ := itx_obj h1; exact Heap.lt_size eo
      · obtain ⟨o, eo, _⟩ := itx_obj h2; exact Heap.lt_size eo
    rw [upd_ne (Nat.ne_of_lt (Nat.lt_of_lt_of_le hlt hN))]
    exact (hf k hk).1
  done := by
    intro X hP hw hK hc i pins s σ H E I hf st hg
    subst hP hw hK
    obtain ⟨hz, hT, hO, h1, h2⟩ := st
    obtain ⟨xs, ys, hq, hq2, hx⟩ := hg
    obtain ⟨its, rv, p⟩ := inv_x I hq
    obtain ⟨its2, rv2, p2⟩ := inv_x I hq2
    have hi : i = min its.toArray.size its2.toArray.size := by rw [List.size_toArray, List.size_toArray, ← rv.length, ← rv2.length, hx]
    have hh : X.A.in1.handled = none := I.ok.hd hc
    have G := GoesN.zip2 (prog := X.prog) (w := X.w) (A := X.A) (elts := elts) (x1 := kk) (pos := tpos) (zip_sep2 (N := n) (fp1 := [a]) (fp2 := [a2]) (by simpa using ha) (by simpa using ha2)) (draws_x hh b n a (Nat.ne_of_lt ha) its.toArray) (draws_x hh c (n + 1) a2 (Nat.ne_of_lt (Nat.lt_succ_of_lt ha2)) its2.toArray)
    refine G.stops s _ _ (by rw [← hi]; exact ⟨hz, hT, hO, ⟨h1, p⟩, ⟨h2, p2⟩⟩) fun h' tk hk _ => I.turnedL (ch := zipC n) (fun b o hb e => hk b o (fun z => hb ?_) e) hf
    have : b = n + 4 ∨ b = n + 3 ∨ b = n ∨ b = n + 1 := by simpa using z
    rcases this with z | z | z | z <;> simp [z]
  self := fun A i s Q E st h => wpAny_pyIter_zip st.1 h
def zipL : List D → List D → List D
  | x :: xs, y :: ys => .tup [x, y] :: zipL xs ys
  | _, _ => []
theorem zipL_len : ∀ (xs ys : List D), (zipL xs ys).length = min xs.length ys.length
  | [], ys => by cases ys <;> simp [zipL]
  | x :: xs, [] => by simp [zipL]
  | x :: xs, y :: ys => by simp [zipL, zipL_len xs ys]
theorem zipL_get : ∀ {xs ys : List D} {i : Nat} {x y : D}, xs[i]? = some x → ys[i]? = some y → (zipL xs ys)[i]? = some (.tup [x, y])
  | x :: xs, y :: ys, 0, _, _, e, e2 => by simp at e e2; subst e; subst e2; rfl
  | x :: xs, y :: ys, i + 1, _, _, e, e2 => zipL_get (xs := xs) (ys := ys) (by simpa using e) (by simpa using e2)
theorem walk_zip {K : PySem.W.Frag} {mg : Str → Option Value} {F : Hp} {b c : Bool} {a a2 : Addr} {vs us : List V} {l m : List D} (q : SqX K b F a vs) (rp : Reps K mg F l vs) (q2 : SqX K c F a2 us) (rp2 : Reps K mg F m us) : WalkD K mg (fun _ => True) (Jzip K b c a a2) F (zipL l m) where
  go := fun i F' H' s1 s2 _ hi => by
    rw [zipL_len] at hi
    obtain ⟨v, h1, h2, _⟩ := reps_lookX q rp s1 s2 (Nat.lt_of_lt_of_le hi (Nat.min_le_left _ _))
    obtain ⟨u, g1, g2, _⟩ := reps_lookX q2 rp2 s1 s2 (Nat.lt_of_lt_of_le hi (Nat.min_le_right _ _))
    exact ⟨vs, us, v, u, h1, g1, h2, g2⟩
  yld := fun i F' H' x H'' s1 s2 _ hi y => by
    rw [zipL_len] at hi
    obtain ⟨v, h1, h2, h3, h4⟩ := reps_lookX q rp s1 s2 (Nat.lt_of_lt_of_le hi (Nat.min_le_left _ _))
    obtain ⟨u, g1, g2, g3, g4⟩ := reps_lookX q2 rp2 s1 s2 (Nat.lt_of_lt_of_le hi (Nat.min_le_right _ _))
    obtain ⟨T, x', y', rfl, hT, rfl, hx, hy⟩ := y
    have := hx vs h1
    rw [h2] at this; cases this
    have := hy us g1
    rw [g2] at this; cases this
    exact ⟨_, _, zipL_get h3 g3, .one hT, Rep.tup_new (.cons h4 (.cons g4 .nil)) (Same.none s2 hT)⟩
  stop := fun i F' H' s1 s2 _ hi => ⟨vs, us, sqx_keeps (s1.trans s2) q, sqx_keeps (s1.trans s2) q2, by rw [hi, zipL_len, rp.len, rp2.len]⟩
def zipD (f g : DS → Res D) : DS → Res (List D) := fun s => (f s).bind fun d s => (g s).bind fun e s => match isLT2 d, isLT2 e with
  | some (_, l), some (_, m) => .ok (zipL l m) s
  | _, _ => .bad
section
variable {X : Cx} {W : WX} {pos p : Pos} {e e2 : Expr} {tg : Expr}
def iZipX (K : PySem.W.Frag) (ta : TA) : TI := fun σ H R => ta σ H fun vs H1 => ∃ b c a a2 xs ys, vs = [.ref a, .ref a2] ∧ SqX K b H1 a xs ∧ SqX K c H1 a2 ys ∧ R (Jzip K b c a a2) H1
theorem pi_zipX {ta : TA} {elts : List Expr} {kk : Nat} {tpos : Pos} (hg : Gl X "zip") (hm : X.mg "zip" = none) (ha : PA X [e, e2] ta)
    (hs : starEach [e, e2] X.env = (false, eval e X.env) :: starEach [e2] X.env := by rfl) (hpl : (backTo pos (starEach [e2] X.env)).any (·.1) = false := by rfl) :
    PI X (.Tuple elts kk tpos) (.Call (.Name "zip" p) [e, e2] [] pos) (iZipX X.K ta) := by
  refine ⟨fun pins s σ H R I h => ?_⟩
  refine Call_ (ld_blt I hg hm PyProof.Rows.boot_zip (PyProof.Rows.callWith_type1 (thn (ha.run pos pins s σ H _ I h) fun us s1 ⟨vs, H1, I1, r1, qq⟩ => ?_) hs hpl))
  obtain ⟨b, c, a, a2, xs, ys, rfl, hq, hq2, q⟩ := qq
  cases r1 with
  | cons r rr =>
    cases rr with
    | cons r' rr =>
      cases rr; cases r; cases r'
      obtain ⟨its, rv, p'⟩ := inv_x I1 hq
      obtain ⟨its2, rv2, p2'⟩ := inv_x I1 hq2
      refine zip_begins2 (begins_x b a its.toArray) (begins_x c a2 its2.toArray) p' p2' fun h' z1 z2 z3 z4 z5 z6 hk => wpAny_pyIter_zip z1 ?_
      have I2 : Inv X pins σ H1 { s1 with heap := h' } := I1.kept (t' := s1.toks) hk
      refine ⟨s1.heap.objs.size + 4, zipC s1.heap.objs.size, _, _, H1, rfl, I2, turn_zipX b c a a2 s1.heap.objs.size (srx_lt p') (srx_lt p2'), ⟨z1, z2, ⟨_, _, z3⟩, itx_new z4, itx_new z5⟩, fun c hc => ?_, q⟩
      have hle : s1.heap.objs.size ≤ c := by
        have e' : c = s1.heap.objs.size + 4 ∨ c = s1.heap.objs.size + 2 ∨ c = s1.heap.objs.size + 3 ∨ c = s1.heap.objs.size ∨ c = s1.heap.objs.size + 1 := by simpa using hc
        rcases e' with z | z | z | z | z <;> rw [z]
        · exact Nat.le_add_right _ _
        · exact Nat.le_add_right _ _
        · exact Nat.le_add_right _ _
        · exact Nat.le_refl _
        · exact Nat.le_add_right _ _
      exact I1.fpOk hle (I1.hok.fresh hle)
theorem di_zip {f g : DS → Res D} {elts : List Expr} {kk : Nat} {tpos : Pos} (hm : X.mg "zip" = none) (he : DE X W e f) (he2 : DE X W e2 g) (hg : Gl X "zip" := by rfl)
    (hs : starEach [e, e2] X.env = (false, eval e X.env) :: starEach [e2] X.env := by rfl) (hs2 : starEach [e2] X.env = (false, eval e2 X.env) :: starEach [] X.env := by rfl) (hpl : (backTo pos (starEach [e2] X.env)).any (·.1) = false := by rfl) :
    DI X W (.Tuple elts kk tpos) (.Call (.Name "zip" p) [e, e2] [] pos) (zipD f g) := by
  refine PI.imp (pi_zipX hg hm (pa_cons he (pa_d he2 hs2) hs) hs hpl) fun σ H R ⟨B, F, ds, r, p⟩ => ⟨B, F, ds, r, p.bind.mono (fun d s p v F' H' r' s' q => ⟨B, F', s, r', p.bind.mono (fun d2 s2 p u F2 H2 r2 s2' q2 => ?_) fun _ _ h => h.mono s'⟩) fun _ _ h => h⟩
  cases e3 : isLT2 d with
  | none => rw [e3] at p; exact p.elim
  | some bl =>
    obtain ⟨b, l⟩ := bl
    cases e4 : isLT2 d2 with
    | none => rw [e3, e4] at p; exact p.elim
    | some bl2 =>
      obtain ⟨c, m⟩ := bl2
      rw [e3, e4] at p
      obtain ⟨a, vs, rfl, sq, rp, _⟩ := rep_x q e3
      obtain ⟨a2, us, rfl, sq2, rp2, _⟩ := rep_x q2 e4
      have sq' := sqx_keeps s2' sq
      have rp' := Reps.keeps (Same.keeps s2') _ _ rp
      exact ⟨b, c, a, a2, vs, us, rfl, sqx_keeps r2.sub sq', sqx_keeps r2.sub sq2, p _ F2 H2 r2 (s'.trans s2') (walk_zip sq' rp' sq2 rp2)⟩
end
/-! ### range, values -/
def rng1D (f : DS → Res D) : DS → Res (List D) := fun s => (f s).bind fun d s => match d with
  | .int j => if -(2 ^ 62) ≤ j ∧ j < 2 ^ 62 then .ok ((List.range j.toNat).map fun i => .int (0 + (i : Nat))) s else .bad
  | _ => .bad
def rng2D (f g : DS → Res D) : DS → Res (List D) := fun s => (f s).bind fun d s => (g s).bind fun e s => match d, e with
  | .int i, .int j => if -(2 ^ 62) ≤ i ∧ i < 2 ^ 62 ∧ -(2 ^ 62) ≤ j ∧ j < 2 ^ 62 then .ok ((List.range (j - i).toNat).map fun k => .int (i + (k : Nat))) s else .bad
  | _, _ => .bad
/-- range(i, j, -1) -/
def rngdD (f g : DS → Res D) (h : DS → Res D) : DS → Res (List D) := fun s => (f s).bind fun d s => (g s).bind fun e s => (h s).bind fun c s => match d, e, c with
  | .int i, .int j, .int c => if c = -1 ∧ -(2 ^ 62) ≤ i ∧ i < 2 ^ 62 ∧ -(2 ^ 62) ≤ j ∧ j < 2 ^ 62 then .ok ((List.range (i - j).toNat).map fun k => .int (i + (k : Nat) * -1)) s else .bad
  | _, _, _ => .bad
def valsD (f : DS → Res D) : DS → Res (List D) := fun s => (f s).bind fun d s => match d with
  | .lst l => .ok l s
  | .tup l => .ok l s
  | .str x => .ok (signs x) s
  | _ => .bad
section
variable {X : Cx} {W : WX} {pos p : Pos} {e e2 e3 : Expr} {tg : Expr} {f g h : DS → Res D}
theorem di_range1 (hm : X.mg "range" = none) (he : DE X W e f) (hg : Gl X "range" := by rfl) (hs : starEach [e] X.env = [(false, eval e X.env)] := by rfl) (hs2 : starEach [e] X.env = (false, eval e X.env) :: starEach [] X.env := by rfl) : DI X W tg (.Call (.Name "range" p) [e] [] pos) (rng1D f) := by
  refine PI.imp (pi_range1 hg hm (pa_d he hs2) hs) fun σ H R ⟨B, F, ds, r, p⟩ => ⟨B, F, ds, r, p.bind.mono (fun d s p v F' H' r' s' q => ?_) fun _ _ h => h⟩
  split at p
  · rename_i j
    split at p
    · rename_i hj
      exact ⟨j, by rw [Rep.int_ q], hj.1, hj.2, p _ F' H' r' s' walk_range⟩
    · exact p.elim
  · exact p.elim
theorem di_range2 (hm : X.mg "range" = none) (he : DE X W e f) (he2 : DE X W e2 g) (hg : Gl X "range" := by rfl) (hs : starEach [e, e2] X.env = [(false, eval e X.env), (false, eval e2 X.env)] := by rfl) (hs2 : starEach [e2] X.env = [(false, eval e2 X.env)] := by rfl)
    (hs3 : starEach [e, e2] X.env = (false, eval e X.env) :: starEach [e2] X.env := by rfl) (hs4 : starEach [e2] X.env = (false, eval e2 X.env) :: starEach [] X.env := by rfl) : DI X W tg (.Call (.Name "range" p) [e, e2] [] pos) (rng2D f g) := by
  refine PI.imp (pi_range2 hg hm (pa_cons he (pa_d he2 hs4) hs3) hs hs2) fun σ H R ⟨B, F, ds, r, p⟩ => ⟨B, F, ds, r, p.bind.mono (fun d s p0 v F' H' r' s' q => ⟨B, F', s, r', p0.bind.mono (fun d2 s2 p u F2 H2 r2 s2' q2 => ?_) fun _ _ h => h.mono s'⟩) fun _ _ h => h⟩
  split at p
  · rename_i i j
    split at p
    · rename_i hj
      exact ⟨i, j, by rw [Rep.int_ q, Rep.int_ q2], hj, p _ F2 H2 r2 (s'.trans s2') walk_range⟩
    · exact p.elim
  · exact p.elim
theorem di_rangeD (hm : X.mg "range" = none) (he : DE X W e f) (he2 : DE X W e2 g) (he3 : DE X W e3 h) (hg : Gl X "range" := by rfl) (hs : starEach [e, e2, e3] X.env = (false, eval e X.env) :: starEach [e2, e3] X.env := by rfl) (hs2 : starEach [e2, e3] X.env = (false, eval e2 X.env) :: starEach [e3] X.env := by rfl)
    (hs3 : starEach [e3] X.env = (false, eval e3 X.env) :: starEach [] X.env := by rfl) (hpl : (backTo pos (starEach [e2, e3] X.env)).any (·.1) = false := by rfl) : DI X W tg (.Call (.Name "range" p) [e, e2, e3] [] pos) (rngdD f g h) := by
  refine PI.imp (pi_range3 hg hm (pa_cons he (pa_cons he2 (pa_d he3 hs3) hs2) hs) hs hpl) fun σ H R ⟨B, F, ds, r, p⟩ => ⟨B, F, ds, r, p.bind.mono (fun d s p0 v F' H' r' s' q => ⟨B, F', s, r', p0.bind.mono (fun d2 s2 p1 u F2 H2 r2 s2' q2 => ⟨B, F2, s2, r2, p1.bind.mono (fun d3 s3 p z F3 H3 r3 s3' q3 => ?_) fun _ _ h => h.mono (s'.trans s2')⟩) fun _ _ h => h.mono s'⟩) fun _ _ h => h⟩
  split at p
  · rename_i i j c
    split at p
    · rename_i hj
      obtain ⟨rfl, hj⟩ := hj
      exact ⟨i, j, -1, _, by rw [Rep.int_ q, Rep.int_ q2, Rep.int_ q3], RgC.neg hj.1 hj.2.1 hj.2.2.1 hj.2.2.2, p _ F3 H3 r3 ((s'.trans s2').trans s3') walk_rangeC⟩
    · exact p.elim
  · exact p.elim
theorem di_vals (he : DE X W e f) : DI X W tg e (valsD f) := by
  refine PI.imp (PI.or (pi_list he) (PI.or (pi_tup he) (pi_str he))) fun σ H R ⟨B, F, ds, r, p⟩ => ?_
  -- which kind it is, is known of the plain result
  unfold valsD at p
  revert p
  cases ef : f ds with
  | bad => exact fun p => p.elim
  | ex x s => exact fun p => .inl ⟨B, F, ds, r, by rw [ef]; exact p⟩
  | ok d s =>
    intro p
    rw [Res.bind_ok] at p
    cases d with
    | lst l =>
      refine .inl ⟨B, F, ds, r, ?_⟩
      rw [ef]
      intro v F' H' r' s' q
      obtain ⟨a, vs, rfl, sq, rp⟩ := q.lst_
      exact ⟨a, rfl, ⟨vs, .of (r'.sub _ _ sq)⟩, p _ F' H' r' s' (walk_list sq rp)⟩
    | tup l =>
      refine .inr (.inl ⟨B, F, ds, r, ?_⟩)
      rw [ef]
      intro v F' H' r' s' q
      obtain ⟨a, vs, rfl, sq, rp⟩ := q.tup_
      exact ⟨a, rfl, ⟨vs, .of (r'.sub _ _ sq)⟩, p _ F' H' r' s' (walk_tup sq rp)⟩
    | str x =>
      refine .inr (.inr ⟨B, F, ds, r, ?_⟩)
      rw [ef]
      intro v F' H' r' s' q
      exact ⟨x, Rep.str_ q, p _ F' H' r' s' walk_str⟩
    | _ => exact p.elim
end
end DL

set_option autoImplicit true
/-! D-layer, part o: built-in calls. -/
namespace DL
open PySem PySem.Spec PyProof.Rows L2
set_option autoImplicit false
/-! ### lists of one kind -/
def intsD : List D → Option (List Int)
  | [] => some []
  | .int i :: ds => (intsD ds).map (i :: ·)
  | _ => none
def blsD : List D → Option (List Bool)
  | [] => some []
  | .bl i :: ds => (blsD ds).map (i :: ·)
  | _ => none
theorem intsD_eq : ∀ {ds : List D} {is : List Int}, intsD ds = some is → ds = is.map .int
  | [], is, e => by cases e; rfl
  | d :: ds, is, e => by
    cases d with
    | int i =>
      have e : (intsD ds).map (i :: ·) = some is := e
      cases e2 : intsD ds with
      | none => rw [e2] at e; cases e
      | some js => rw [e2] at e; cases e; rw [intsD_eq e2]; rfl
    | _ => cases e
theorem blsD_eq : ∀ {ds : List D} {is : List Bool}, blsD ds = some is → ds = is.map .bl
  | [], is, e => by cases e; rfl
  | d :: ds, is, e => by
    cases d with
    | bl i =>
      have e : (blsD ds).map (i :: ·) = some is := e
      cases e2 : blsD ds with
      | none => rw [e2] at e; cases e
      | some js => rw [e2] at e; cases e; rw [blsD_eq e2]; rfl
    | _ => cases e
@[simp] theorem intsD_map (is : List Int) : intsD (is.map .int) = some is := by
  induction is with
  | nil => rfl
  | cons i is ih => show (intsD (is.map .int)).map (i :: ·) = _; rw [ih]; rfl
@[simp] theorem blsD_map (is : List Bool) : blsD (is.map .bl) = some is := by
  induction is with
  | nil => rfl
  | cons i is ih => show (blsD (is.map .bl)).map (i :: ·) = _; rw [ih]; rfl
/-- a list or tuple that is looked at -/
theorem brep_x {K : PySem.W.Frag} {mg : Str → Option Value} {F H : Hp} {d : D} {v : V} {b : Bool} {l : List D} (h : BRep K mg F H d v) (e : isLT2 d = some (b, l)) : ∃ a vs, v = .ref a ∧ SqX K b H a vs ∧ Reps K mg F l vs := by
  unfold isLT2 at e
  split at e
  · cases e
    obtain ⟨a, vs, rfl, q, r⟩ := h
    exact ⟨a, vs, rfl, .of q, r⟩
  · cases e
    obtain ⟨a, vs, rfl, q, r⟩ := h
    exact ⟨a, vs, rfl, .of q, r⟩
  · cases e
/-! ### walks of a list or tuple at the library's level -/
theorem iter_x {prog : Program} {w : World} {A : Around} {E : Value → Shared → Prop} {s : Shared} {b : Bool} {a : Addr} {its : Array Value} {Q : Value → Shared → Prop} (hl : SrX b s.heap a its)
    (h : ∀ s2 : Shared, s2 = { s with heap := s.heap.push (itO b a) } → (ItX b s2.heap s.heap.objs.size a 0 ∧ SrX b s2.heap a its) → a ≠ s.heap.objs.size → (∀ c ∈ [s.heap.objs.size, a], c < s2.heap.objs.size) → Q (.ref s.heap.objs.size) s2) : wpAny (model prog w) A (pyIter (.ref a)) Q E s := by
  have hlt := srx_lt hl
  refine (begins_x b a its).iter prog w A E s Q hl (h _ rfl ⟨itx_new (Heap.get?_push_size _ itO_free), (begins_x b a its).keeps _ _ hl fun c o e => Heap.get?_push_of_some _ e⟩ (Nat.ne_of_lt hlt) fun c hc => ?_)
  show c < (s.heap.push _).objs.size
  rw [Heap.size_push]
  have : c = s.heap.objs.size ∨ c = a := by simpa using hc
  rcases this with z | z <;> rw [z]
  · exact Nat.lt_succ_self _
  · exact Nat.lt_succ_of_lt hlt
theorem walks_x {prog : Program} {w : World} {A : Around} (hh : A.handled = none) (b : Bool) (I ax : Addr) (hne : ax ≠ I) (items : Array Value) :
    Walks prog w A I [I, ax] [I] items.size (fun i v => items[i]? = some v) (fun i h => ItX b h I ax i ∧ SrX b h ax items) := by
  cases b with
  | true => exact Walks.list hh I ax hne items
  | false => exact Walks.tuple hh I ax hne items
theorem ints_at {its : List Value} {ns : List Int} (hi : IntsAre its ns) {i : Nat} {v : Value} (e : its.toArray[i]? = some v) : ∃ t, v = .int (ns.getD i 0) t := by
  have e : its[i]? = some v := by simpa using e
  revert i
  induction hi with
  | nil => intro i _ e; simp at e
  | cons n t h ih =>
    intro i _ e
    cases i with
    | zero => simp at e; exact ⟨t, e.symm⟩
    | succ i => simpa using ih (i := i) (by simpa using e) (by simpa using e)
theorem preSum_getD (ns : List Int) : ∀ n, n ≤ ns.length → preSum (fun i => ns.getD i 0) n = (ns.take n).sum
  | 0, _ => by simp [preSum]
  | n + 1, h => by
    have e : preSum (fun i => ns.getD i 0) (n + 1) = preSum (fun i => ns.getD i 0) n + ns.getD n 0 := rfl
    have : ns[n]? = some ns[n] := List.getElem?_eq_getElem (by omega)
    rw [e, preSum_getD ns n (by omega), List.take_succ, this, List.sum_append, List.getD_eq_getElem?_getD, this]
    simp
section
variable {X : Cx} {pins : List (Addr × Obj)} {σ : St} {H : Hp} {s : Shared}
theorem kept_it {h' : Heap} {o : Obj} {b : Addr} {u : Obj} (hk : ∀ b o', b ∉ [s.heap.objs.size] → (s.heap.push o).get? b = some o' → h'.get? b = some o') (e : s.heap.get? b = some u) : h'.get? b = some u := by
  refine hk b u (fun hm => ?_) (Heap.get?_push_of_some _ e)
  rw [List.mem_singleton.mp hm] at e
  exact absurd (Heap.lt_size e) (Nat.lt_irrefl _)
def rSumX (K : PySem.W.Frag) : List V → Hp → VK → Prop := fun vs H Q => ∃ (b : Bool) (a : Addr) (ns : List Int), vs = [V.ref a] ∧ SqX K b H a (ns.map V.int) ∧ Q (.int ns.sum) H
theorem cr_sumX (hc : X.calm = true) : CallR X (.builtin "sum") (rSumX X.K) := by
  intro pins s σ H vs us Q I r h
  obtain ⟨b, a, ns, rfl, hs, q⟩ := h
  obtain ⟨its, rv, hl⟩ := inv_x I hs
  rw [Vals.ref1 r]
  have hi := rv.ints
  refine call_sum_walkG (iter_x hl fun s2 e2 st hne hlt => ?_)
  subst e2
  refine ⟨_, _, _, _, _, _, fun i => ns.getD i 0, rfl, walks_x (A := X.A.in1) (I.ok.hd hc) b _ a hne its.toArray, st, hlt, fun i v hv => ints_at hi hv, fun h' tk t' hk => ?_⟩
  refine ⟨.int ns.sum, H, I.kept fun b o e => kept_it hk e, ⟨t', ?_⟩, q⟩
  rw [List.size_toArray, preSum_getD _ _ (by rw [← hi.length]; exact Nat.le_refl _), hi.length, List.take_length]
def rExtX (K : PySem.W.Frag) (g : Bool) : List V → Hp → VK → Prop := fun vs H Q => ∃ (b : Bool) (a : Addr) (ns : List Int), vs = [V.ref a] ∧ SqX K b H a (ns.map V.int) ∧ 0 < ns.length ∧ ∀ m, m ∈ ns → (∀ y, y ∈ ns → if g then y ≤ m else m ≤ y) → Q (.int m) H
theorem getD_mem' {ns : List Int} {i : Nat} (h : i < ns.length) : ns.getD i 0 ∈ ns := by
  rw [List.getD_eq_getElem?_getD, List.getElem?_eq_getElem h]
  exact List.getElem_mem h
theorem mem_getD' {ns : List Int} {y : Int} (h : y ∈ ns) : ∃ i, i < ns.length ∧ ns.getD i 0 = y := by
  obtain ⟨i, hi, e⟩ := List.mem_iff_getElem.mp h
  exact ⟨i, hi, by rw [List.getD_eq_getElem?_getD, List.getElem?_eq_getElem hi]; exact e⟩
theorem cr_maxX (hc : X.calm = true) : CallR X (.builtin "max") (rExtX X.K true) := by
  intro pins s σ H vs us Q I r h
  obtain ⟨b, a, ns, rfl, hs, hne0, q⟩ := h
  obtain ⟨its, rv, hl⟩ := inv_x I hs
  rw [Vals.ref1 r]
  have hi := rv.ints
  have hlen := hi.length
  refine call_max_walk (iter_x hl fun s2 e2 st hne hlt => ?_)
  subst e2
  refine ⟨_, _, _, _, _, _, _, rfl, walks_x (A := X.A.in1) (I.ok.hd hc) b _ a hne its.toArray, st, hlt, by rw [List.size_toArray]; omega, CmpOf.ints_gt (fun i => ns.getD i 0) (fun i v hv => ints_at hi hv), fun v h' tk hP hk => ?_⟩
  obtain ⟨t, rfl⟩ := ints_at hi hP
  rw [List.size_toArray] at *
  obtain ⟨b1, b2⟩ := argBest_gt (fun i => ns.getD i 0) (its.length - 1)
  refine ⟨.int _, H, I.kept fun b o e => kept_it hk e, ⟨t, rfl⟩, q _ (getD_mem' (by omega)) fun y hy => ?_⟩
  obtain ⟨i, hi', e⟩ := mem_getD' hy
  rw [if_pos rfl, ← e]
  exact b2 i (by omega)
theorem cr_minX (hc : X.calm = true) : CallR X (.builtin "min") (rExtX X.K false) := by
  intro pins s σ H vs us Q I r h
  obtain ⟨b, a, ns, rfl, hs, hne0, q⟩ := h
  obtain ⟨its, rv, hl⟩ := inv_x I hs
  rw [Vals.ref1 r]
  have hi := rv.ints
  have hlen := hi.length
  refine call_min_walk (iter_x hl fun s2 e2 st hne hlt => ?_)
  subst e2
  refine ⟨_, _, _, _, _, _, _, rfl, walks_x (A := X.A.in1) (I.ok.hd hc) b _ a hne its.toArray, st, hlt, by rw [List.size_toArray]; omega, CmpOf.ints_lt (fun i => ns.getD i 0) (fun i v hv => ints_at hi hv), fun v h' tk hP hk => ?_⟩
  obtain ⟨t, rfl⟩ := ints_at hi hP
  rw [List.size_toArray] at *
  obtain ⟨b1, b2⟩ := argBest_lt (fun i => ns.getD i 0) (its.length - 1)
  refine ⟨.int _, H, I.kept fun b o e => kept_it hk e, ⟨t, rfl⟩, q _ (getD_mem' (by omega)) fun y hy => ?_⟩
  obtain ⟨i, hi', e⟩ := mem_getD' hy
  rw [if_neg (by decide), ← e]
  exact b2 i (by omega)
end
/-! ### the operations by data -/
section
variable {K : PySem.W.Frag} {mg : Str → Option Value}
theorem one_of {F H : Hp} {ds : List D} {vs : List V} {α : Type} {fn : D → Option α} {x : α} (b : BReps K mg F H ds vs) (e : (match ds with
  | [d] => fn d
  | _ => none) = some x) : ∃ d v, ds = [d] ∧ vs = [v] ∧ BRep K mg F H d v ∧ fn d = some x := by
  match ds, b, e with
  | [d], ⟨v, _, ev, h, en⟩, e => subst en; subst ev; exact ⟨d, v, rfl, rfl, h, e⟩
  | [], _, e => cases e
  | _ :: _ :: _, _, e => cases e
def on1 {α : Type} (fn : D → Option α) : List D → Option α
  | [d] => fn d
  | _ => none
def on2 {α : Type} (fn : D → D → Option α) : List D → Option α
  | [d, e] => fn d e
  | _ => none
theorem on1_of {F H : Hp} {ds : List D} {vs : List V} {α : Type} {fn : D → Option α} {x : α} (b : BReps K mg F H ds vs) (e : on1 fn ds = some x) : ∃ d v, ds = [d] ∧ vs = [v] ∧ BRep K mg F H d v ∧ fn d = some x := by
  match ds, b, e with
  | [d], ⟨v, _, ev, h, en⟩, e => subst en; subst ev; exact ⟨d, v, rfl, rfl, h, e⟩
  | [], _, e => cases e
  | _ :: _ :: _, _, e => cases e
theorem on2_of {F H : Hp} {ds : List D} {vs : List V} {α : Type} {fn : D → D → Option α} {x : α} (b : BReps K mg F H ds vs) (e : on2 fn ds = some x) : ∃ d c v u, ds = [d, c] ∧ vs = [v, u] ∧ BRep K mg F H d v ∧ BRep K mg F H c u ∧ fn d c = some x := by
  match ds, b, e with
  | [d, c], ⟨v, _, ev, h, u, _, eu, h2, en⟩, e => subst en; subst eu; subst ev; exact ⟨d, c, v, u, rfl, rfl, h, h2, e⟩
  | [], _, e => cases e
  | [_], _, e => cases e
  | _ :: _ :: _ :: _, _, e => cases e
def absD : D → Option D
  | .int i => some (.int (if i < 0 then -i else i))
  | _ => none
theorem s_abs : OpS K mg (fun xs H Q => ∃ i, xs = [.int i] ∧ Q (.int (if i < 0 then -i else i)) H) (on1 absD) := by
  intro F H ds vs d Q sm br e k
  obtain ⟨x, v, rfl, rfl, h, e0⟩ := on1_of br e
  clear e
  have e := e0
  clear e0
  unfold absD at e
  split at e
  · cases e; exact ⟨_, by rw [h.int_], k _ F H (.refl _ _) Rep.int⟩
  · cases e
def intD : D → Option D
  | .int i => some (.int i)
  | .bl b => some (.int (if b then 1 else 0))
  | _ => none
theorem s_int : OpS K mg (fun xs H Q => (∃ i, xs = [V.int i] ∧ Q (.int i) H) ∨ ∃ k, xs = [V.bl k] ∧ Q (.int (if k then 1 else 0)) H) (on1 intD) := by
  intro F H ds vs d Q sm br e k
  obtain ⟨x, v, rfl, rfl, h, e0⟩ := on1_of br e
  clear e
  have e := e0
  clear e0
  unfold intD at e
  split at e
  · cases e; exact .inl ⟨_, by rw [h.int_], k _ F H (.refl _ _) Rep.int⟩
  · cases e; exact .inr ⟨_, by rw [h.bl_], k _ F H (.refl _ _) Rep.int⟩
  · cases e
def sumD (d : D) : Option D := (isLT2 d).bind fun bl => (intsD bl.2).map fun ns => .int ns.sum
theorem s_sum : OpS K mg (rSumX K) (on1 sumD) := by
  intro F H ds vs d Q sm br e k
  obtain ⟨x, v, rfl, rfl, h, e0⟩ := on1_of br e
  clear e
  have e := e0
  clear e0
  unfold sumD at e
  cases e2 : isLT2 x with
  | none => rw [e2] at e; cases e
  | some bl =>
    rw [e2, Option.bind_some] at e
    cases e3 : intsD bl.2 with
    | none => rw [e3] at e; cases e
    | some ns =>
      rw [e3] at e; cases e
      obtain ⟨a, us, rfl, q, r⟩ := brep_x (b := bl.1) (l := bl.2) h e2
      rw [intsD_eq e3] at r
      exact ⟨bl.1, a, ns, rfl, by rw [← r.ints]; exact q, k _ F H (.refl _ _) Rep.int⟩
/-- the greatest, the least -/
def bestI (g : Bool) : List Int → Int
  | [] => 0
  | [i] => i
  | i :: r => if g then max i (bestI g r) else min i (bestI g r)
theorem bestI_spec (g : Bool) : ∀ (ns : List Int) (m : Int), m ∈ ns → (∀ y, y ∈ ns → if g then y ≤ m else m ≤ y) → m = bestI g ns
  | [], m, h, _ => by simp at h
  | [i], m, h, _ => by simpa [bestI] using h
  | i :: j :: r, m, h, hy => by
    have hj := bestI_ok g (j :: r) (by simp)
    unfold bestI
    cases g with
    | true =>
      rw [if_pos rfl]
      have h1 := hy i (by simp)
      have h2 := hy _ (List.mem_cons_of_mem _ hj.1)
      simp only [if_true] at h1 h2
      rcases List.mem_cons.mp h with e | e
      · subst e; omega
      · have := hj.2 m e
        simp only [if_true] at this
        omega
    | false =>
      rw [if_neg (by decide)]
      have h1 := hy i (by simp)
      have h2 := hy _ (List.mem_cons_of_mem _ hj.1)
      simp only [Bool.false_eq_true, if_false] at h1 h2
      rcases List.mem_cons.mp h with e | e
      · subst e; omega
      · have := hj.2 m e
        simp only [Bool.false_eq_true, if_false] at this
        omega
where
  bestI_ok (g : Bool) : ∀ (ns : List Int), ns ≠ [] → bestI g ns ∈ ns ∧ ∀ y, y ∈ ns → if g then y ≤ bestI g ns else bestI g ns ≤ y
  | [], h => absurd rfl h
  | [i], _ => by
    refine ⟨by simp [bestI], fun y hy => ?_⟩
    have : y = i := by simpa using hy
    subst this
    unfold bestI
    split <;> exact Int.le_refl _
  | i :: j :: r, _ => by
    obtain ⟨a, b⟩ := bestI_ok g (j :: r) (by simp)
    unfold bestI
    cases g with
    | true =>
      rw [if_pos rfl]
      refine ⟨?_, fun y hy => ?_⟩
      · by_cases z : i ≤ bestI true (j :: r)
        · rw [Int.max_eq_right z]; exact List.mem_cons_of_mem _ a
        · rw [Int.max_eq_left (by omega)]; exact List.mem_cons_self ..
      · rw [if_pos rfl]
        rcases List.mem_cons.mp hy with e | e
        · subst e; omega
        · have := b y e
          rw [if_pos rfl] at this
          omega
    | false =>
      rw [if_neg (by decide)]
      refine ⟨?_, fun y hy => ?_⟩
      · by_cases z : i ≤ bestI false (j :: r)
        · rw [Int.min_eq_left z]; exact List.mem_cons_self ..
        · rw [Int.min_eq_right (by omega)]; exact List.mem_cons_of_mem _ a
      · rw [if_neg (by decide)]
        rcases List.mem_cons.mp hy with e | e
        · subst e; omega
        · have := b y e
          rw [if_neg (by decide)] at this
          omega
def extD (g : Bool) (d : D) : Option D := (isLT2 d).bind fun bl => (intsD bl.2).bind fun ns => if ns = [] then none else some (.int (bestI g ns))
theorem s_ext {g : Bool} : OpS K mg (rExtX K g) (on1 (extD g)) := by
  intro F H ds vs d Q sm br e k
  obtain ⟨x, v, rfl, rfl, h, e0⟩ := on1_of br e
  clear e
  have e := e0
  clear e0
  unfold extD at e
  cases e2 : isLT2 x with
  | none => rw [e2] at e; cases e
  | some bl =>
    rw [e2, Option.bind_some] at e
    cases e3 : intsD bl.2 with
    | none => rw [e3] at e; cases e
    | some ns =>
      rw [e3, Option.bind_some] at e
      split at e
      · cases e
      · rename_i hne
        cases e
        obtain ⟨a, us, rfl, q, r⟩ := brep_x (b := bl.1) (l := bl.2) h e2
        rw [intsD_eq e3] at r
        exact ⟨bl.1, a, ns, rfl, by rw [← r.ints]; exact q, List.length_pos_iff.mpr hne, fun m h1 h2 => by rw [bestI_spec g ns m h1 h2]; exact k _ F H (.refl _ _) Rep.int⟩
/-! all, any of a list of truths -/
def allD (d : D) : Option D := match d with
  | .lst l => (blsD l).map fun bs => .bl (bs.all id)
  | _ => none
def anyD (d : D) : Option D := match d with
  | .lst l => (blsD l).map fun bs => .bl (bs.any id)
  | _ => none
theorem s_all : OpS K mg (rAll K) (on1 allD) := by
  intro F H ds vs d Q sm br e k
  obtain ⟨x, v, rfl, rfl, h, e0⟩ := on1_of br e
  clear e
  have e := e0
  clear e0
  unfold allD at e
  split at e
  · rename_i l
    cases e3 : blsD l with
    | none => rw [e3] at e; cases e
    | some bs =>
      rw [e3] at e; cases e
      obtain ⟨a, us, rfl, q, r⟩ := h
      rw [blsD_eq e3] at r
      exact ⟨a, bs, rfl, by rw [← r.bls]; exact .of q, k _ F H (.refl _ _) Rep.bl⟩
  · cases e
theorem s_any : OpS K mg (rAny K) (on1 anyD) := by
  intro F H ds vs d Q sm br e k
  obtain ⟨x, v, rfl, rfl, h, e0⟩ := on1_of br e
  clear e
  have e := e0
  clear e0
  unfold anyD at e
  split at e
  · rename_i l
    cases e3 : blsD l with
    | none => rw [e3] at e; cases e
    | some bs =>
      rw [e3] at e; cases e
      obtain ⟨a, us, rfl, q, r⟩ := h
      rw [blsD_eq e3] at r
      exact ⟨a, bs, rfl, by rw [← r.bls]; exact .of q, k _ F H (.refl _ _) Rep.bl⟩
  · cases e
/-! len -/
def lenD : D → Option D
  | .lst l => some (.int l.length)
  | .tup l => some (.int l.length)
  | .scr l => some (.int l.length)
  | .str x => if sizeOk x.length then some (.int x.length) else none
  | .dT kvs => some (.int kvs.length)
  | .dK kvs => some (.int kvs.length)
  | _ => none
def rLenD : List V → Hp → VK → Prop := fun xs H Q => ∃ (p : Addr) (n : Nat), xs = [.ref p] ∧ ((∃ kvs, Rd H p (.dT kvs) ∧ n = kvs.length) ∨ ∃ kvs, Rd H p (.dK kvs) ∧ n = kvs.length) ∧ Q (.int ((n : Nat) : Int)) H
theorem call_lenDX {X : Cx} : CallR X (.builtin "len") rLenD := by
  intro pins s σ H xs us Q I r h
  obtain ⟨p, n, rfl, hp, q⟩ := h
  obtain ⟨u, rfl, rx⟩ := vals1 r
  obtain rfl : u = .ref p := rx
  rcases hp with ⟨kvs, hp, rfl⟩ | ⟨kvs, hp, rfl⟩
  · obtain ⟨z, hd, ys, rel, dd⟩ := dt_rd I.hok hp
    have hl : kvs.length = ys.length := Paired.length rel
    refine call_len_dictH hd dd (by rw [← hl]; rw [sizeLine_eq] at z; omega) ?_
    rw [← hl]
    exact ⟨.int ((kvs.length : Nat) : Int), H, I.tok _, ⟨_, rfl⟩, q⟩
  · exact d_len I hp fun t s' I' => ⟨.int kvs.length, H, I', ⟨t, rfl⟩, q⟩
abbrev rLenA (K : PySem.W.Frag) : List V → Hp → VK → Prop := fun xs H Q => (fun xs H Q => ∃ p ys, xs = [V.ref p] ∧ (SqL K H p ys ∨ SqT K H p ys) ∧ Q (V.int ys.length) H) xs H Q ∨ (fun xs H Q => ∃ z : Str, xs = [V.str z] ∧ z.length ≤ sizeLine ∧ Q (V.int z.length) H) xs H Q ∨ rLenD xs H Q
theorem call_lenA {X : Cx} : CallR X (.builtin "len") (rLenA X.K) := call_len_seq.or (call_len_str.or call_lenDX)
theorem s_len : OpS K mg (rLenA K) (on1 lenD) := by
  intro F H ds vs d Q sm br e k
  obtain ⟨x, v, rfl, rfl, h, e0⟩ := on1_of br e
  clear e
  have e := e0
  clear e0
  unfold lenD at e
  split at e
  · cases e
    obtain ⟨a, us, rfl, q, r⟩ := h
    exact .inl ⟨a, us, rfl, .inl (.of q), by rw [← r.len]; exact k _ F H (.refl _ _) Rep.int⟩
  · cases e
    obtain ⟨a, us, rfl, q, r⟩ := h
    exact .inl ⟨a, us, rfl, .inr (.of q), by rw [← r.len]; exact k _ F H (.refl _ _) Rep.int⟩
  · rename_i l
    cases e
    obtain ⟨a, rfl, q⟩ := h
    exact .inl ⟨a, _, rfl, .inl q, by rw [List.length_map]; exact k _ F H (.refl _ _) Rep.int⟩
  · rename_i z
    split at e
    · rename_i hz
      cases e
      exact .inr (.inl ⟨z, by rw [h.str_], hz, k _ F H (.refl _ _) Rep.int⟩)
    · cases e
  · cases e
    obtain ⟨a, ws, rfl, q, r⟩ := h
    exact .inr (.inr ⟨a, ws.length, rfl, .inl ⟨ws, q, rfl⟩, by rw [← RepT.len r]; exact k _ F H (.refl _ _) Rep.int⟩)
  · cases e
    obtain ⟨a, ws, rfl, q, r⟩ := h
    exact .inr (.inr ⟨a, ws.length, rfl, .inr ⟨ws, q, rfl⟩, by rw [← RepK.len r]; exact k _ F H (.refl _ _) Rep.int⟩)
  · cases e
/-! tuple(x) of a list or tuple; list(x) -/
def tupD : D → Option D
  | .lst l => some (.tup l)
  | .tup l => some (.tup l)
  | _ => none
theorem s_tup : OpS K mg (fun xs H Q => ∃ p ys, xs = [V.ref p] ∧ ((SqL K H p ys ∧ ∀ l, H l = none → Q (.ref l) (upd H l (.tup ys))) ∨ (SqT K H p ys ∧ Q (.ref p) H))) (on1 tupD) := by
  intro F H ds vs d Q sm br e k
  obtain ⟨x, v, rfl, rfl, h, e0⟩ := on1_of br e
  clear e
  have e := e0
  clear e0
  unfold tupD at e
  split at e
  · cases e
    obtain ⟨a, us, rfl, q, r⟩ := h
    exact ⟨a, us, rfl, .inl ⟨.of q, fun l hl => k _ _ _ (.one hl) (.tup_new r (Same.none sm hl))⟩⟩
  · cases e
    obtain ⟨a, us, rfl, q, r⟩ := h
    refine ⟨a, us, rfl, .inr ⟨.of q, k _ (upd F a (.tup us)) H (.tup (.refl _ _) a us q) ?_⟩⟩
    unfold Rep
    have ss : Same F (upd F a (.tup us)) := (Grow.subs (.tup (.refl F H) a us q) sm).2.1
    exact ⟨a, us, rfl, upd_same, Reps.keeps (Same.keeps ss) _ _ r⟩
  · cases e
def lstN (d : D) : Option Own := (isLT2 d).map fun bl => .l bl.2
theorem s_lstN : NwS K mg (fun xs H Q => ∃ p ys, xs = [V.ref p] ∧ (SqL K H p ys ∨ SqT K H p ys) ∧ ∀ l, H l = none → Q (.ref l) (upd H l (.lst ys))) (on1 lstN) := by
  intro F H ds vs d Q sm br e k
  obtain ⟨x, v, rfl, rfl, h, e0⟩ := on1_of br e
  clear e
  have e := e0
  clear e0
  unfold lstN at e
  cases e2 : isLT2 x with
  | none => rw [e2] at e; cases e
  | some bl =>
    rw [e2] at e; cases e
    obtain ⟨a, us, rfl, q, r⟩ := brep_x (b := bl.1) (l := bl.2) h e2
    refine ⟨a, us, rfl, ?_, fun l hl => k l _ F H (.refl _ _) hl ⟨us, rfl, r⟩⟩
    cases hb : bl.1 with
    | true => rw [hb] at q; exact .inl q
    | false => rw [hb] at q; exact .inr q
end
section
variable {X : Cx} {W : WX} {k : Nat} {pos p : Pos} {e : Expr} {es : List Expr} {g : DS → Res (List Ar)}
/-- one argument -/
theorem de_abs (hm : X.mg "abs" = none) (ha : DAs X W (e :: es) g) (hg : Gl X "abs" := by rfl) (he : starEach (e :: es) X.env = (false, eval e X.env) :: starEach es X.env := by rfl) (hpl : (backTo pos (starEach es X.env)).any (·.1) = false := by rfl) : DE X W (.Call (.Name "abs" p) (e :: es) [] pos) (eCall (on1 absD) g) := de_callB call_abs s_abs hm (by decide +kernel) ha hg (by decide) (by decide) he hpl
theorem de_int1 (hm : X.mg "int" = none) (ha : DAs X W (e :: es) g) (hg : Gl X "int" := by rfl) (he : starEach (e :: es) X.env = (false, eval e X.env) :: starEach es X.env := by rfl) (hpl : (backTo pos (starEach es X.env)).any (·.1) = false := by rfl) : DE X W (.Call (.Name "int" p) (e :: es) [] pos) (eCall (on1 intD) g) := de_callTy call_int1 s_int hm (by decide +kernel) ha hg (by decide) (by decide) he hpl
theorem de_sum (C : Ctx k X W) (hm : X.mg "sum" = none) (ha : DAs X W (e :: es) g) (hg : Gl X "sum" := by rfl) (he : starEach (e :: es) X.env = (false, eval e X.env) :: starEach es X.env := by rfl) (hpl : (backTo pos (starEach es X.env)).any (·.1) = false := by rfl) : DE X W (.Call (.Name "sum" p) (e :: es) [] pos) (eCall (on1 sumD) g) := de_callB (cr_sumX C.calm) s_sum hm (by decide +kernel) ha hg (by decide) (by decide) he hpl
theorem de_max (C : Ctx k X W) (hm : X.mg "max" = none) (ha : DAs X W (e :: es) g) (hg : Gl X "max" := by rfl) (he : starEach (e :: es) X.env = (false, eval e X.env) :: starEach es X.env := by rfl) (hpl : (backTo pos (starEach es X.env)).any (·.1) = false := by rfl) : DE X W (.Call (.Name "max" p) (e :: es) [] pos) (eCall (on1 (extD true)) g) := de_callB (cr_maxX C.calm) s_ext hm (by decide +kernel) ha hg (by decide) (by decide) he hpl
theorem de_min (C : Ctx k X W) (hm : X.mg "min" = none) (ha : DAs X W (e :: es) g) (hg : Gl X "min" := by rfl) (he : starEach (e :: es) X.env = (false, eval e X.env) :: starEach es X.env := by rfl) (hpl : (backTo pos (starEach es X.env)).any (·.1) = false := by rfl) : DE X W (.Call (.Name "min" p) (e :: es) [] pos) (eCall (on1 (extD false)) g) := de_callB (cr_minX C.calm) s_ext hm (by decide +kernel) ha hg (by decide) (by decide) he hpl
theorem de_all (C : Ctx k X W) (hm : X.mg "all" = none) (ha : DAs X W (e :: es) g) (hg : Gl X "all" := by rfl) (he : starEach (e :: es) X.env = (false, eval e X.env) :: starEach es X.env := by rfl) (hpl : (backTo pos (starEach es X.env)).any (·.1) = false := by rfl) : DE X W (.Call (.Name "all" p) (e :: es) [] pos) (eCall (on1 allD) g) := de_callB (cr_all C.calm) s_all hm (by decide +kernel) ha hg (by decide) (by decide) he hpl
theorem de_any (C : Ctx k X W) (hm : X.mg "any" = none) (ha : DAs X W (e :: es) g) (hg : Gl X "any" := by rfl) (he : starEach (e :: es) X.env = (false, eval e X.env) :: starEach es X.env := by rfl) (hpl : (backTo pos (starEach es X.env)).any (·.1) = false := by rfl) : DE X W (.Call (.Name "any" p) (e :: es) [] pos) (eCall (on1 anyD) g) := de_callB (cr_any C.calm) s_any hm (by decide +kernel) ha hg (by decide) (by decide) he hpl
theorem de_len (hm : X.mg "len" = none) (ha : DAs X W (e :: es) g) (hg : Gl X "len" := by rfl) (he : starEach (e :: es) X.env = (false, eval e X.env) :: starEach es X.env := by rfl) (hpl : (backTo pos (starEach es X.env)).any (·.1) = false := by rfl) : DE X W (.Call (.Name "len" p) (e :: es) [] pos) (eCall (on1 lenD) g) := de_callB call_lenA s_len hm (by decide +kernel) ha hg (by decide) (by decide) he hpl
theorem de_tupC (hm : X.mg "tuple" = none) (ha : DAs X W (e :: es) g) (hg : Gl X "tuple" := by rfl) (he : starEach (e :: es) X.env = (false, eval e X.env) :: starEach es X.env := by rfl) (hpl : (backTo pos (starEach es X.env)).any (·.1) = false := by rfl) : DE X W (.Call (.Name "tuple" p) (e :: es) [] pos) (eCall (on1 tupD) g) := de_callTy call_tuple_of s_tup hm (by decide +kernel) ha hg (by decide) (by decide) he hpl
theorem dn_lstC (hm : X.mg "list" = none) (ha : DAs X W (e :: es) g) (hg : Gl X "list" := by rfl) (he : starEach (e :: es) X.env = (false, eval e X.env) :: starEach es X.env := by rfl) (hpl : (backTo pos (starEach es X.env)).any (·.1) = false := by rfl) : DN X W (.Call (.Name "list" p) (e :: es) [] pos) (nCall (on1 lstN) g) := dn_callTy call_list_of s_lstN hm (by decide +kernel) ha hg (by decide) (by decide) he hpl
end
end DL

set_option autoImplicit true
/-! D-layer, part p: isinstance, dict of pairs, sorted. -/
namespace DL
open PySem PySem.Spec PyProof.Rows L2
set_option autoImplicit false
/-! ### isinstance -/
/-- the facts of a class whose objects are asked for -/
def InsF (K : PySem.W.Frag) (C : Addr) : Prop := Cls K C ∧ PySem.W.findIn K (.ref C) "__class__" = some (some (.builtin "object.__class__")) ∧
  PySem.W.specialIn K (.builtin "object.__class__") "__get__" = some (some (.builtin "getset_descriptor.__get__")) ∧ PySem.W.takesIn K (.builtin "object.__class__") = some true ∧ PySem.W.mroIn K C (.type "object") = some true
def tyN : D → String
  | .non => "NoneType"
  | .bl _ => "bool"
  | .int _ => "int"
  | .str _ => "str"
  | .tup _ => "tuple"
  | .lst _ => "list"
  | .scr _ => "list"
  | .dT _ => "dict"
  | .dK _ => "dict"
  | .obj _ _ => ""
def tnames : List String := ["NoneType", "bool", "int", "str", "tuple", "list", "dict"]
def subT (t T : String) : Bool := t == T || (t == "bool" && T == "int")
theorem kitB_names : ∀ t ∈ tnames, ∀ T ∈ tnames, kitB t T = some (subT t T) := by decide +kernel
def isiT (os : List Str) (T : String) : D → Option Bool
  | .obj c _ => if os.contains c then some false else none
  | .dT _ => none
  | d => some (subT (tyN d) T)
def isiC (os : List Str) (c0 : Str) : D → Option Bool
  | .obj c _ => if os.contains c then some (c == c0) else none
  | .dT _ => none
  | _ => some false
/-- isinstance(x, T) is known for the classes os -/
structure IsT (X : Cx) (os : List Str) (T : String) : Prop where
  nm : T ∈ tnames
  os : ∀ c, os.contains c = true → ∃ C, X.mg c = some (.ref C) ∧ InsF X.K C ∧ PySem.W.kitOne X.K (.ref C) (.type T) = some false
structure IsC (X : Cx) (os : List Str) (c0 : Str) : Prop where
  ex : ∃ C0, X.mg c0 = some (.ref C0) ∧ (∀ t ∈ tnames, PySem.W.kitOne X.K (.type t) (.ref C0) = some false) ∧ ∀ c, os.contains c = true → ∃ C, X.mg c = some (.ref C) ∧ InsF X.K C ∧ PySem.W.kitOne X.K (.ref C) (.ref C0) = some (c == c0)
theorem tyx_lst {K : PySem.W.Frag} {H : Hp} {a : Addr} {xs : List V} (h : SqL K H a xs) : TyX K H (.ref a) (.type "list") := by
  rcases h with (h | ⟨o, h⟩) | ⟨o, its, n, h, c, _⟩
  · exact .base (.lst h)
  · exact .base (.frz h)
  · exact .kList h c
theorem tyx_of {K : PySem.W.Frag} {mg : Str → Option Value} {F H : Hp} {d : D} {v : V} (h : BRep K mg F H d v) (hn : ∀ c fs, d ≠ .obj c fs) (hn2 : ∀ kvs, d ≠ .dT kvs) : TyX K H v (.type (tyN d)) ∧ tyN d ∈ tnames := by
  cases d with
  | non => rw [h.non_]; exact ⟨.base .non, by simp [tyN, tnames]⟩
  | bl b => rw [h.bl_]; exact ⟨.base (.bl b), by simp [tyN, tnames]⟩
  | int i => rw [h.int_]; exact ⟨.base (.int i), by simp [tyN, tnames]⟩
  | str x => rw [h.str_]; exact ⟨.base (.str x), by simp [tyN, tnames]⟩
  | tup l => obtain ⟨a, vs, rfl, q, _⟩ := h; exact ⟨.base (.tup q), by simp [tyN, tnames]⟩
  | lst l => obtain ⟨a, vs, rfl, q, _⟩ := h; exact ⟨.base (.lst q), by simp [tyN, tnames]⟩
  | scr l => obtain ⟨a, rfl, q⟩ := h; exact ⟨tyx_lst q, by simp [tyN, tnames]⟩
  | dT l => exact absurd rfl (hn2 l)
  | dK l =>
    obtain ⟨a, vs, rfl, q | ⟨o, q⟩, _⟩ := h
    · exact ⟨.base (.dK q), by simp [tyN, tnames]⟩
    · exact ⟨.fDict q, by simp [tyN, tnames]⟩
  | obj c fs => exact absurd rfl (hn c fs)
def eIsi (fn : D → Option Bool) (f : DS → Res Ar) : DS → Res D := fun s => (f s).bind fun a s => match (a.d s).bind fn with
  | some b => .ok (.bl b) s
  | none => .bad
section
variable {X : Cx} {W : WX} {k : Nat} {pos p p2 : Pos} {e : Expr} {f : DS → Res Ar}
theorem isi_use {fn : D → Option Bool} {t : TE} (h : ∀ B F ds σ H Q, Rel X.K X.mg B F H σ ds → Post B F (f ds) (fun a ds' => ∀ v F' H', Rel X.K X.mg B F' H' σ ds' → Same F F' → ArOk X.K X.mg F' σ a v → ∃ d b, a.d ds' = some d ∧ fn d = some b ∧ Q (.bl b) H') (Raised X.K X.mg B F W σ) → t σ H Q) : ∀ σ H Q, tD X.K X.mg W (eIsi fn f) σ H Q → t σ H Q := by
  intro σ H Q ⟨B, F, ds, r, p⟩
  refine h B F ds σ H Q r (p.bind.mono (fun a s p0 v F' H' r' s' q => ?_) fun _ _ h => h)
  cases e2 : a.d s with
  | none => rw [e2] at p0; exact p0.elim
  | some d =>
    rw [e2, Option.bind_some] at p0
    cases e3 : fn d with
    | none => rw [e3] at p0; exact p0.elim
    | some b => rw [e3] at p0; exact ⟨d, b, rfl, e3, p0 _ F' H' r' s' Rep.bl⟩
/-- what isinstance asks of the class -/
theorem isi_ty {F H : Hp} {d : D} {v : V} {b : Bool} {os : List Str} {T : String} (i : IsT X os T) (h : BRep X.K X.mg F H d v) (e : isiT os T d = some b) : ∃ t, TyX X.K H v t ∧ ∀ T' b', IsT X os T' → isiT os T' d = some b' → PySem.W.kitOne X.K t (.type T') = some b' := by
  cases d with
  | obj c fs =>
    have e : (if os.contains c then some false else none) = some b := e
    split at e
    · rename_i hc
      cases e
      obtain ⟨C, hm, ⟨c1, c2, c3, c4, c5⟩, hk⟩ := i.os c hc
      obtain ⟨a, C', dx, ws, rfl, hm', hh, _⟩ := h
      rw [hm] at hm'; cases hm'
      refine ⟨_, .base (.ins hh c1 c2 c3 c4 c5), fun T' b' i' e' => ?_⟩
      have e' : (if os.contains c then some false else none) = some b' := e'
      rw [if_pos hc] at e'; cases e'
      obtain ⟨C2, hm2, _, hk2⟩ := i'.os c hc
      rw [hm] at hm2; cases hm2
      exact hk2
    · cases e
  | dT l => cases e
  | _ =>
    obtain ⟨h1, h2⟩ := tyx_of h (fun _ _ z => by cases z) (fun _ z => by cases z)
    refine ⟨_, h1, fun T' b' i' e' => ?_⟩
    have e' : some (subT _ T') = some b' := e'
    cases e'
    exact kit_ty (kitB_names _ h2 _ i'.nm)
theorem isi_cl {F H : Hp} {d : D} {v : V} {b : Bool} {os : List Str} {c0 : Str} {C0 : Addr} (i : IsC X os c0) (hC : X.mg c0 = some (.ref C0)) (h : BRep X.K X.mg F H d v) (e : isiC os c0 d = some b) : ∃ t, TyX X.K H v t ∧ PySem.W.kitOne X.K t (.ref C0) = some b := by
  obtain ⟨C1, hC1, hb, ho⟩ := i.ex
  rw [hC] at hC1; cases hC1
  cases d with
  | obj c fs =>
    have e : (if os.contains c then some (c == c0) else none) = some b := e
    split at e
    · rename_i hc
      cases e
      obtain ⟨C, hm, ⟨c1, c2, c3, c4, c5⟩, hk⟩ := ho c hc
      obtain ⟨a, C', dx, ws, rfl, hm', hh, _⟩ := h
      rw [hm] at hm'; cases hm'
      exact ⟨_, .base (.ins hh c1 c2 c3 c4 c5), hk⟩
    · cases e
  | dT l => cases e
  | _ =>
    have e : some false = some b := e
    cases e
    obtain ⟨h1, h2⟩ := tyx_of h (fun _ _ z => by cases z) (fun _ z => by cases z)
    exact ⟨_, h1, hb _ h2⟩
theorem boot_isi : bootBuiltins "isinstance" = some (.builtin "isinstance") := by decide +kernel
theorem de_isiT {T : String} {n : Str} {os : List Str} (i : IsT X os T) (hT : bootBuiltins n = some (.type T)) (hm : X.mg "isinstance" = none) (hn : X.mg n = none) (he : DA1 X W e f) (hg : Gl X "isinstance" := by rfl) (hgn : Gl X n := by rfl) (hn1 : n ≠ "__name__" := by decide) (hn2 : (n == ("__debug__" : Str)) = false := by decide)
    (hs : starEach [e, .Name n p2] X.env = (false, eval e X.env) :: starEach [.Name n p2] X.env := by rfl) (hs2 : starEach [.Name n p2] X.env = (false, eval (.Name n p2) X.env) :: starEach [] X.env := by rfl) (hpl : (backTo pos (starEach [.Name n p2] X.env)).any (·.1) = false := by rfl) :
    DE X W (.Call (.Name "isinstance" p) [e, .Name n p2] [] pos) (eIsi (isiT os T) f) := by
  refine PE.imp (pe_callB call_isi hg hm boot_isi (pa_cons he (pa_cons (pe_bltn (v := .ty T) hgn hn hT rfl hn1 hn2) pa_nil hs2) hs) (by decide) (by decide) hs hpl) (isi_use fun B F ds σ H Q r p => ⟨B, F, ds, r, p.mono (fun a s p v F' H' r' s' q => ?_) fun _ _ h => h⟩)
  obtain ⟨d, b, e2, e3, q3⟩ := p v F' H' r' s' q
  obtain ⟨t, h1, h2⟩ := isi_ty i (q.brep r' e2) e3
  exact ⟨v, .ty T, t, .type T, b, rfl, .ty T, h1, h2 _ _ i e3, q3⟩
theorem de_isiC {c0 : Str} {os : List Str} (i : IsC X os c0) (hm : X.mg "isinstance" = none) (he : DA1 X W e f) (hg : Gl X "isinstance" := by rfl) (hgn : Gl X c0 := by rfl) (hn2 : (c0 == ("__debug__" : Str)) = false := by decide)
    (hs : starEach [e, .Name c0 p2] X.env = (false, eval e X.env) :: starEach [.Name c0 p2] X.env := by rfl) (hs2 : starEach [.Name c0 p2] X.env = (false, eval (.Name c0 p2) X.env) :: starEach [] X.env := by rfl) (hpl : (backTo pos (starEach [.Name c0 p2] X.env)).any (·.1) = false := by rfl) :
    DE X W (.Call (.Name "isinstance" p) [e, .Name c0 p2] [] pos) (eIsi (isiC os c0) f) := by
  obtain ⟨C0, hC, _⟩ := i.ex
  refine PE.imp (pe_callB call_isi hg hm boot_isi (pa_cons he (pa_cons (pe_glob (v := .ref C0) hgn hC rfl hn2) pa_nil hs2) hs) (by decide) (by decide) hs hpl) (isi_use fun B F ds σ H Q r p => ⟨B, F, ds, r, p.mono (fun a s p v F' H' r' s' q => ?_) fun _ _ h => h⟩)
  obtain ⟨d, b, e2, e3, q3⟩ := p v F' H' r' s' q
  obtain ⟨t, h1, h2⟩ := isi_cl i hC (q.brep r' e2) e3
  exact ⟨v, .ref C0, t, .ref C0, b, rfl, .own C0, h1, h2, q3⟩
/-- isinstance(x, (T1, T2)) -/
def isiT2 (os : List Str) (T1 T2 : String) (d : D) : Option Bool := match isiT os T1 d, isiT os T2 d with
  | some a, some b => some (a || b)
  | _, _ => none
theorem de_isiT2 {T1 T2 : String} {n1 n2 : Str} {os : List Str} {p3 pt : Pos} {kt} (i1 : IsT X os T1) (i2 : IsT X os T2) (hT1 : bootBuiltins n1 = some (.type T1)) (hT2 : bootBuiltins n2 = some (.type T2)) (hm : X.mg "isinstance" = none) (hn1 : X.mg n1 = none) (hn2 : X.mg n2 = none) (he : DA1 X W e f)
    (hg : Gl X "isinstance" := by rfl) (hg1 : Gl X n1 := by rfl) (hg2 : Gl X n2 := by rfl) (a1 : n1 ≠ "__name__" := by decide) (a2 : (n1 == ("__debug__" : Str)) = false := by decide) (b1 : n2 ≠ "__name__" := by decide) (b2 : (n2 == ("__debug__" : Str)) = false := by decide)
    (hs : starEach [e, .Tuple [.Name n1 p2, .Name n2 p3] kt pt] X.env = (false, eval e X.env) :: starEach [.Tuple [.Name n1 p2, .Name n2 p3] kt pt] X.env := by rfl) (hs2 : starEach [.Tuple [.Name n1 p2, .Name n2 p3] kt pt] X.env = (false, eval (.Tuple [.Name n1 p2, .Name n2 p3] kt pt) X.env) :: starEach [] X.env := by rfl) (hpl : (backTo pos (starEach [.Tuple [.Name n1 p2, .Name n2 p3] kt pt] X.env)).any (·.1) = false := by rfl)
    (hs3 : starEach [.Name n1 p2, .Name n2 p3] X.env = (false, eval (.Name n1 p2) X.env) :: starEach [.Name n2 p3] X.env := by rfl) (hs4 : starEach [.Name n2 p3] X.env = (false, eval (.Name n2 p3) X.env) :: starEach [] X.env := by rfl) :
    DE X W (.Call (.Name "isinstance" p) [e, .Tuple [.Name n1 p2, .Name n2 p3] kt pt] [] pos) (eIsi (isiT2 os T1 T2) f) := by
  refine PE.imp (pe_callB call_isiT hg hm boot_isi (pa_cons he (pa_cons (pe_tup (pa_cons (pe_bltn (v := .ty T1) hg1 hn1 hT1 rfl a1 a2) (pa_cons (pe_bltn (v := .ty T2) hg2 hn2 hT2 rfl b1 b2) pa_nil hs4) hs3)) pa_nil hs2) hs) (by decide) (by decide) hs hpl) fun σ H Q ⟨B, F, ds, r, p⟩ => ⟨B, F, ds, r, p.bind.mono (fun a s p0 v F' H' r' s' q => ?_) fun _ _ h => h⟩
  cases e2 : a.d s with
  | none => rw [e2] at p0; exact p0.elim
  | some d =>
    rw [e2, Option.bind_some] at p0
    cases e3 : isiT2 os T1 T2 d with
    | none => rw [e3] at p0; exact p0.elim
    | some b =>
      rw [e3] at p0
      refine ⟨by show 2 ≤ sizeLine; decide, fun pn hp => ?_⟩
      unfold isiT2 at e3
      split at e3
      · rename_i x y ex ey
        cases e3
        have r2 := r'.allocH (o := .tup [.ty T1, .ty T2]) hp
        have br := q.brep r2 e2
        obtain ⟨t, h1, h2⟩ := isi_ty i1 br ex
        refine ⟨v, pn, _, t, [.type T1, .type T2], (x || y), rfl, upd_same, .cons (.ty T1) (.cons (.ty T2) .nil), h1, ?_, p0 _ F' _ r2 s' Rep.bl⟩
        refine kitAny_cons (h2 _ _ i1 ex) (fun hx => ?_) (fun hx => by rw [hx]; rfl)
        refine kitAny_cons (h2 _ _ i2 ey) (fun hy => by rw [hx, hy]; rfl) (fun hy => by rw [hy]; exact Bool.or_true _)
      · cases e3
end
end DL

set_option autoImplicit true
/-! D-layer, part q: dicts of pairs. -/
namespace DL
open PySem PySem.Spec PyProof.Rows L2
set_option autoImplicit false
/-- the pairs of a list, keys tuples -/
def pairsT : List D → Option (List (List Key × D))
  | [] => some []
  | d :: ds => match d, pairsT ds with
    | .tup [k, v], some r => (dKeys k).map fun ks => (ks, v) :: r
    | _, _ => none
def mergeD {κ : Type} [DecidableEq κ] (kvs more : List (κ × D)) : List (κ × D) := more.foldl (fun acc kv => putD acc kv.1 kv.2) kvs
def dictT : D → Option Own
  | .lst l => if sizeOk l.length then (pairsT l).map fun ps => .T (mergeD [] ps) else none
  | _ => none
section
variable {K : PySem.W.Frag} {mg : Str → Option Value} {F H : Hp}
theorem RepT.nil : RepT K mg F [] [] := by unfold RepT; rfl
theorem RepT.cons {k : List Key} {d : D} {v : V} {r : List (List Key × D)} {t : List (List Key × V)} (h : Rep K mg F d v) (q : RepT K mg F r t) : RepT K mg F ((k, d) :: r) ((k, v) :: t) := by unfold RepT; exact ⟨v, t, rfl, h, q⟩
theorem rept_merge : ∀ {more : List (List Key × D)} {ws2 : List (List Key × V)} {kvs : List (List Key × D)} {ws : List (List Key × V)}, RepT K mg F more ws2 → RepT K mg F kvs ws → RepT K mg F (mergeD kvs more) (ws2.foldl (fun acc kv => putK acc kv.1 kv.2) ws)
  | [], ws2, kvs, ws, h, q => by unfold RepT at h; subst h; exact q
  | p :: more, ws2, kvs, ws, h, q => by
    unfold RepT at h
    obtain ⟨v, r, e, h, t⟩ := h
    subst e
    have key := rept_merge t (q.put p.1 h)
    exact key
theorem KT.mergeH {more : List (List Key × V)} {ps : List (List Key × Addr × Value)} (h : KT H more ps) : ∀ {ws : List (List Key × V)} {xs : List (List Key × Addr × Value)}, KT H ws xs → KT H (more.foldl (fun acc kv => putK acc kv.1 kv.2) ws) (storedAllH xs ps) := by
  induction h with
  | nil => exact fun q => q
  | @cons p q' l1 l2 h t ih =>
    intro ws xs q
    obtain ⟨h1, h2, h3⟩ := h
    have e : KT H (putK ws p.1 p.2) (storedH xs q'.1 q'.2.1 q'.2.2) := by
      rw [← h1]
      exact q.put p.1 h2 h3
    exact ih e
end
section
variable {X : Cx} {pins : List (Addr × Obj)} {σ : St} {H F : Hp} {s : Shared}
/-- the pairs as they stand -/
theorem pairs_stand (I : Inv X pins σ H s) (sm : Same F H) : ∀ {l : List D} {vs : List V} {its : List Value} {kvs : List (List Key × D)}, Reps X.K X.mg F l vs → Vals vs its → pairsT l = some kvs →
    ∃ (Ts : List Addr) (ws : List (List Key × V)) (ps : List (List Key × Addr × Value)), its = Ts.map Value.ref ∧ Ts.length = ps.length ∧ ps.length = l.length ∧ RepT X.K X.mg F kvs ws ∧ KT H ws ps ∧ ∀ (j : Nat) p, ps[j]? = some p → ∃ T, Ts[j]? = some T ∧ s.heap.IsTuple T #[.ref p.2.1, p.2.2]
  | [], vs, its, kvs, h, r, e => by
    unfold Reps at h; subst h
    cases r
    cases e
    exact ⟨[], [], [], rfl, rfl, rfl, .nil, .nil, fun j p e => by simp at e⟩
  | d :: ds, vs, its, kvs, h, r, e => by
    unfold Reps at h
    obtain ⟨v, t, ev, h, h2⟩ := h
    subst ev
    cases r with
    | cons r rr =>
      unfold pairsT at e
      split at e
      · rename_i k w rest e2
        cases e3 : dKeys k with
        | none => rw [e3] at e; cases e
        | some ks =>
          rw [e3] at e; cases e
          obtain ⟨Ts, ws, ps, i1, i2, i3, i4, i5, i6⟩ := pairs_stand I sm h2 rr e2
          obtain ⟨T, us, rfl, q, rp⟩ := h.tup_
          cases r
          unfold Reps at rp
          obtain ⟨vk, t1, eu, hk, rp⟩ := rp
          unfold Reps at rp
          obtain ⟨vw, t2, eu2, hw, rp⟩ := rp
          unfold Reps at rp
          subst rp; subst eu2; subst eu
          obtain ⟨b, rfl, hb⟩ := dKeys_rep hk e3
          obtain ⟨its2, rv, ht, _⟩ := I.tuple (SqT.of (sm _ _ q))
          cases rv with
          | cons ra rv =>
            cases rv with
            | cons rb rv =>
              cases rv
              cases ra
              rename_i uw
              refine ⟨T :: Ts, (ks, vw) :: ws, (ks, b, uw) :: ps, by rw [i1]; rfl, by simp [i2], by simp [i3], .cons hw i4, .cons ⟨rfl, sm _ _ hb, rb⟩ i5, fun j p ej => ?_⟩
              cases j with
              | zero => simp at ej; subst ej; exact ⟨T, rfl, ht⟩
              | succ j => simpa using i6 j p (by simpa using ej)
      · cases e
/-- dict(xs) of pairs with tuple keys -/
def rDictT (K : PySem.W.Frag) (mg : Str → Option Value) : List V → Hp → VK → Prop := fun xs H Q => ∃ (F : Hp) (a : Addr) (vs : List V) (l : List D) (kvs : List (List Key × D)), xs = [V.ref a] ∧ Same F H ∧ SqL K H a vs ∧ Reps K mg F l vs ∧ l.length ≤ sizeLine ∧ pairsT l = some kvs ∧
  ∀ p ws, H p = none → RepT K mg F (mergeD [] kvs) ws → Q (.ref p) (upd H p (.dT ws))
theorem call_dictT (hc : X.calm = true) (hu : X.A.units + 64 < cLine) : CallR X (.type "dict") (rDictT X.K X.mg) := by
  intro pins s σ H xs us Q I r h
  obtain ⟨F, a, vs, l, kvs, rfl, sm, hl, rp, hz, hp, q⟩ := h
  obtain ⟨u, rfl, rx⟩ := vals1 r
  cases rx
  obtain ⟨its, rv, pl, _⟩ := I.list hl
  obtain ⟨Ts, ws, ps, rfl, l1, l2, rt, kt, ht⟩ := pairs_stand I sm rp rv hp
  obtain ⟨o, n, ho, hcl, hd, hdat⟩ := pl
  let pv : List (Value × Value) := ps.map fun (p : List Key × Addr × Value) => (Value.ref p.2.1, p.2.2)
  have hat : ∀ (j : Nat) (k v : Value), pv[j]? = some (k, v) → ∃ p : List Key × Addr × Value, ps[j]? = some p ∧ k = Value.ref p.2.1 ∧ v = p.2.2 := fun j k v e => by
    obtain ⟨p, e1, e2⟩ := Option.map_eq_some_iff.mp (by rw [← List.getElem?_map]; exact e)
    cases e2
    exact ⟨p, e1, rfl, rfl⟩
  have keys : ∀ h' : Heap, (∀ b ob, s.heap.get? b = some ob → h'.get? b = some ob) → ∀ x ∈ ps, (tupleKind (mixKind X.prog X.w)).is h' x.1 x.2.1 := fun h' hk x hx => by
    have all : ∀ {w : List (List Key × V)} {m : List (List Key × Addr × Value)}, KT H w m → ∀ x ∈ m, (tupleKind (mixKind X.prog X.w)).is s.heap x.1 x.2.1 := by
      intro w m q
      induction q with
      | nil => intro x hx; exact nomatch hx
      | @cons p q ps qs hq t ih =>
        intro x hx
        rcases List.mem_cons.mp hx with e | hx
        · subst e; exact key_of I.hok (by rw [← hq.1]; exact hq.2.1)
        · exact ih x hx
    obtain ⟨o, its, n, g1, g2⟩ := all kt x hx
    exact ⟨o, its, n, hk _ _ g1, g2⟩
  refine call_dict_pairsH (knd := tupleKind (mixKind X.prog X.w)) (ps := ps) (PairArg.list a (Ts.map Value.ref).toArray (fun j => Ts.getD j 0) pv) (I.ok.hd hc) (show X.A.units + 1 + 1 < cLine by omega) ⟨⟨o, n, ho, hcl, hd, hdat⟩, by simp [pv, l1], fun j k v e => ?_⟩ ⟨by simp [pv], fun i k v e => ?_⟩ (fun h' hk x hx => keys h' (fun b ob e => hk b ob (Nat.ne_of_lt (Heap.lt_size e)) (by simp) e) x hx) (by simp only [pv, List.length_map]; omega) fun h' tk hd' hk => ?_
  · obtain ⟨p, e1, rfl, rfl⟩ := hat j k v e
    obtain ⟨T, e2, e3⟩ := ht j p e1
    have hT : Ts.getD j 0 = T := by rw [List.getD_eq_getElem?_getD, e2]; rfl
    refine ⟨?_, .inl ?_⟩
    · show (Ts.map Value.ref).toArray[j]? = some (Value.ref (Ts.getD j 0))
      rw [hT]; simp [e2]
    · show s.heap.IsTuple (Ts.getD j 0) _
      rw [hT]; exact e3
  · obtain ⟨p, e1, rfl, rfl⟩ := hat i k v e
    exact ⟨p.1, p.2.1, e1, rfl⟩
  · have hm : (s.heap.objs.size == sysModules) = false := beq_eq_false_iff_ne.mpr (Nat.ne_of_gt I.big)
    have km : KT H (ws.foldl (fun acc kv => putK acc kv.1 kv.2) []) (storedAllH [] ps) := KT.mergeH kt .nil
    have rm := rept_merge (kvs := []) (ws := []) rt .nil
    have hlen : (ws.foldl (fun acc kv => putK acc kv.1 kv.2) []).length ≤ sizeLine := by
      rw [Paired.length km]
      refine Nat.le_trans (storedAllH_length ps []) ?_
      simp only [List.length_nil]
      omega
    obtain ⟨o', es, ep, g1, g2, g3, g4, _, g5⟩ := hd'
    have hf := I.hok.fresh (Nat.le_refl s.heap.objs.size)
    refine ⟨.ref s.heap.objs.size, upd H s.heap.objs.size (.dT _), I.laid (t' := tk) (fun b ob e => hk b ob (by simp) e) (Nat.le_refl _) (show ObjOk X.prog X.w _ _ _ (.dT _) from ⟨hlen, hm, _, km.keeps fun b ys e => ?_, o', es, ep, g1, g2, g3, g4, g5⟩), rfl, q _ _ hf rm⟩
    rw [upd_ne (ne_of_none e hf)]
    exact e
end
section
variable {K : PySem.W.Frag} {mg : Str → Option Value}
theorem s_dictT : NwS K mg (rDictT K mg) (on1 dictT) := by
  intro F H ds vs d Q sm br e k
  obtain ⟨x, v, rfl, rfl, h, e0⟩ := on1_of br e
  clear e
  have e := e0
  clear e0
  unfold dictT at e
  split at e
  · rename_i l
    split at e
    · rename_i hz
      cases e2 : pairsT l with
      | none => rw [e2] at e; cases e
      | some kvs =>
        rw [e2] at e; cases e
        obtain ⟨a, us, rfl, q, r⟩ := h
        exact ⟨F, a, us, l, kvs, rfl, sm, .of q, r, hz, e2, fun p ws hp rt => k p _ F H (.refl _ _) hp ⟨ws, rfl, rt⟩⟩
    · cases e
  · cases e
end
section
variable {X : Cx} {W : WX} {k : Nat} {pos p : Pos} {e : Expr} {es : List Expr} {g : DS → Res (List Ar)}
theorem dn_dictT (C : Ctx k X W) (hm : X.mg "dict" = none) (ha : DAs X W (e :: es) g) (hg : Gl X "dict" := by rfl) (he : starEach (e :: es) X.env = (false, eval e X.env) :: starEach es X.env := by rfl) (hpl : (backTo pos (starEach es X.env)).any (·.1) = false := by rfl) : DN X W (.Call (.Name "dict" p) (e :: es) [] pos) (nCall (on1 dictT) g) :=
  dn_callTy (call_dictT C.calm (by have := C.room.un; omega)) s_dictT hm (by decide +kernel) ha hg (by decide) (by decide) he hpl
end
end DL

set_option autoImplicit true
/-! D-layer, part r: sorted. -/
namespace DL
open PySem PySem.Spec PyProof.Rows L2
set_option autoImplicit false
def encD (d : D) : PyData := (toPy d).getD .none
def isTup1 : PyData → Bool
  | .tuple (_ :: _) => true
  | _ => false
def isOther : PyData → Bool
  | .none => false
  | .tuple _ => false
  | _ => true
def sortOk (ds : List D) : Bool := (ds.all fun d => (toPy d).isSome) && (ds.all fun d => ds.all fun e => PySem.W.alike (encD d) (encD e)) && ((ds.all fun d => isTup1 (encD d)) || (ds.all fun d => isOther (encD d))) && (ds.all fun d => decide ((encD d).depth ≤ 8)) && decide (ds.length ≤ sizeLine)
def sortL (ds : List D) : List D := ds.mergeSort (PySem.W.dataLe false encD)
theorem sortOk_of {ds : List D} (h : sortOk ds = true) : (∀ d ∈ ds, ∃ x, toPy d = some x) ∧ PySem.W.AllAlike (ds.map encD) ∧ PySem.W.Sortable (ds.map encD) ∧ (∀ d ∈ ds, (encD d).depth ≤ 8) ∧ ds.length ≤ sizeLine := by
  unfold sortOk at h
  simp only [Bool.and_eq_true, Bool.or_eq_true, List.all_eq_true, decide_eq_true_eq] at h
  obtain ⟨⟨⟨⟨h1, h2⟩, h3⟩, h4⟩, h5⟩ := h
  refine ⟨fun d hd => Option.isSome_iff_exists.mp (h1 d hd), fun x hx y hy => ?_, ?_, h4, h5⟩
  · obtain ⟨d, hd, rfl⟩ := List.mem_map.mp hx
    obtain ⟨e, he, rfl⟩ := List.mem_map.mp hy
    exact h2 d hd e he
  · rcases h3 with h3 | h3
    · refine .inl fun x hx => ?_
      obtain ⟨d, hd, rfl⟩ := List.mem_map.mp hx
      have := h3 d hd
      unfold isTup1 at this
      split at this
      · exact ⟨_, _, by assumption⟩
      · cases this
    · refine .inr fun x hx => ?_
      obtain ⟨d, hd, rfl⟩ := List.mem_map.mp hx
      have := h3 d hd
      unfold isOther at this
      split at this
      · cases this
      · cases this
      · rename_i a b
        exact ⟨fun z => a z, fun xs z => b xs z⟩
section
variable {K : PySem.W.Frag} {mg : Str → Option Value} {F H : Hp}
/-- a value of the run stands for the data -/
def UD (K : PySem.W.Frag) (mg : Str → Option Value) (F : Hp) (u : Value) (d : D) : Prop := ∃ v, RelV v u ∧ Rep K mg F d v
theorem ud_each : ∀ {ds : List D} {vs : List V} {us : List Value}, Reps K mg F ds vs → Vals vs us → PySem.W.EachIs (UD K mg F) us ds
  | [], vs, us, h, r => by unfold Reps at h; subst h; cases r; exact .nil
  | d :: ds, vs, us, h, r => by
    unfold Reps at h
    obtain ⟨v, t, e, h, h2⟩ := h
    subst e
    cases r with
    | cons r rr => exact .cons ⟨v, r, h⟩ (ud_each h2 rr)
theorem ud_back : ∀ {us : List Value} {ds : List D}, PySem.W.EachIs (UD K mg F) us ds → ∃ vs, Vals vs us ∧ Reps K mg F ds vs
  | _, _, .nil => ⟨[], .nil, .nil⟩
  | _, _, .cons ⟨v, r, h⟩ t => by
    obtain ⟨vs, r2, h2⟩ := ud_back t
    exact ⟨v :: vs, .cons r r2, .cons h h2⟩
theorem each_mem2 {α β : Type} {R S : α → β → Prop} : ∀ {us : List α} {ds : List β}, PySem.W.EachIs R us ds → (∀ u d, d ∈ ds → R u d → S u d) → PySem.W.EachIs S us ds
  | _, _, .nil, _ => .nil
  | _, _, .cons h t, k => .cons (k _ _ (List.mem_cons_self ..) h) (each_mem2 t fun u d hd => k u d (List.mem_cons_of_mem _ hd))
end
section
variable {X : Cx} {pins : List (Addr × Obj)} {σ : St} {H F : Hp} {s : Shared}
theorem ud_reads (I : Inv X pins σ H s) (sm : Same F H) {u : Value} {d : D} (h : UD X.K X.mg F u d) (e : ∃ x, toPy d = some x) : ∃ as, Reads s.heap u (encD d) as := by
  obtain ⟨v, r, rp⟩ := h
  obtain ⟨x, e⟩ := e
  have := Dp.reads I x v u (Dp.same sm _ _ (dp_of d v x rp e)) r
  unfold encD
  rw [e]
  exact this
/-- sorted(xs), xs a list of data -/
def rSortL (K : PySem.W.Frag) (mg : Str → Option Value) : List V → Hp → VK → Prop := fun xs H Q => ∃ (F : Hp) (a : Addr) (vs : List V) (l : List D), xs = [V.ref a] ∧ Same F H ∧ SqL K H a vs ∧ Reps K mg F l vs ∧ sortOk l = true ∧
  ∀ p ws, H p = none → Reps K mg F (sortL l) ws → Q (.ref p) (upd H p (.lst ws))
theorem call_sortL (hu : X.A.units + 64 < cLine) : CallR X (.builtin "sorted") (rSortL X.K X.mg) := by
  intro pins s σ H xs us Q I r h
  obtain ⟨F, a, vs, l, rfl, sm, hl, rp, ok, q⟩ := h
  rw [Vals.ref1 r]
  obtain ⟨its, rv, pl, hz⟩ := I.list hl
  obtain ⟨o1, o2, o3, o4, o5⟩ := sortOk_of ok
  have ue := ud_each rp rv
  refine PySem.W.sorted_data (R := UD X.K X.mg F) (enc := encD) pl.isList ue (each_mem2 ue fun u d hd h => ud_reads I sm h (o1 d hd)) o2 o3 o5 (fun d hd => by have := o4 d hd; omega) fun out hlen eo => ?_
  obtain ⟨ws, rw', rp'⟩ := ud_back eo
  obtain ⟨ep, he'⟩ := PyProof.Rows.sortedAll_at s.heap its out.toArray
  have hlen' : ws.length ≤ sizeLine := by
    rw [rw'.length, hlen]; exact o5
  exact ⟨.ref _, upd H (s.heap.objs.size + 1) (.lst ws), I.laid (t' := s.toks) (fun _ _ => PyProof.Rows.sortedAll_old) (Nat.le_succ _) ⟨hlen', out, ep, rw', he'⟩, rfl, q _ ws (I.hok.fresh (Nat.le_succ _)) rp'⟩
/-! the keys of a dict with tuple keys -/
def keyD (k : List Key) : D := .tup (k.map kD)
/-- the key tuples are shared from now on -/
theorem grow_keys {G : Hp} (sm0 : Same G H) : ∀ {kvs : List (List Key × V)} {xs : List (List Key × Addr × Value)}, KT H kvs xs → ∃ F', Grow G H F' H ∧ ∀ x ∈ xs, F' x.2.1 = some (.tup (x.1.map kV))
  | _, _, .nil => ⟨G, .refl _ _, fun x hx => nomatch hx⟩
  | _, _, .cons (a := p) (b := q) h t => by
    obtain ⟨F', g, hall⟩ := grow_keys sm0 t
    refine ⟨_, .tup g q.2.1 (q.1.map kV) (by rw [← h.1]; exact h.2.1), fun x hx => ?_⟩
    by_cases z : x.2.1 = q.2.1
    · rcases List.mem_cons.mp hx with e | hx
      · subst e; exact upd_same
      · have e1 := hall x hx
        have e2 : H x.2.1 = some (.tup (x.1.map kV)) := (g.subs sm0).1 _ _ e1
        have e3 : H q.2.1 = some (.tup (q.1.map kV)) := by rw [← h.1]; exact h.2.1
        rw [z, e3] at e2
        rw [z, upd_same]
        exact e2.symm ▸ rfl
    · rcases List.mem_cons.mp hx with e | hx
      · subst e; exact absurd rfl z
      · rw [upd_ne z]; exact hall x hx
theorem keys_each {F' : Hp} {K : PySem.W.Frag} {mg : Str → Option Value} : ∀ {kvs : List (List Key × V)} {xs : List (List Key × Addr × Value)}, KT H kvs xs → (∀ x ∈ xs, F' x.2.1 = some (.tup (x.1.map kV))) → PySem.W.EachIs (UD K mg F') (xs.map fun x => Value.ref x.2.1) (kvs.map fun p => keyD p.1)
  | _, _, .nil, _ => .nil
  | _, _, .cons (a := p) (b := q) h t, k => .cons (by
      refine ⟨.ref q.2.1, rfl, ?_⟩
      unfold keyD Rep
      rw [h.1]
      exact ⟨q.2.1, _, rfl, k q (List.mem_cons_self ..), reps_kD⟩) (keys_each t fun x hx => k x (List.mem_cons_of_mem _ hx))
theorem keyall_flat {h : Heap} : ∀ {ks : List Key} {us : List Value} {ds : List PyData} {as : List Addr}, toPys (ks.map kD) = some ds → ReadsAll h us ds as → as = []
  | [], us, ds, as, e, r => by cases e; cases r; rfl
  | k :: ks, us, ds, as, e, r => by
    rw [List.map_cons] at e
    unfold toPys at e
    split at e
    · rename_i x xs e1 e2
      cases e
      cases r with
      | cons r1 r2 =>
        have := keyall_flat e2 r2
        subst this
        cases k with
        | inl i => simp [kD, toPy] at e1; subst e1; cases r1; rfl
        | inr i => simp [kD, toPy] at e1; subst e1; cases r1; rfl
    · cases e
theorem key_flat {h : Heap} {k : List Key} {u : Value} {as : List Addr} (e : ∃ x, toPy (keyD k) = some x) (r : Reads h u (encD (keyD k)) as) : as = [] := by
  obtain ⟨x, e⟩ := e
  unfold encD at r
  rw [e] at r
  unfold keyD toPy at e
  cases e2 : toPys (k.map kD) with
  | none => rw [e2] at e; cases e
  | some ds =>
    rw [e2] at e
    cases e
    have r : Reads h u (.tuple ds) as := r
    cases r with
    | tuple _ _ _ ra => exact keyall_flat e2 ra
def rSortT (K : PySem.W.Frag) (mg : Str → Option Value) : List V → Hp → VK → Prop := fun xs H Q => ∃ (G : Hp) (d : Addr) (ws : List (List Key × V)), xs = [V.ref d] ∧ Same G H ∧ Rd H d (.dT ws) ∧ sortOk (ws.map fun p => keyD p.1) = true ∧
  ∀ F' p vs, Grow G H F' H → H p = none → Reps K mg F' (sortL (ws.map fun p => keyD p.1)) vs → Q (.ref p) (upd H p (.lst vs))
theorem call_sortT (hc : X.calm = true) (hu : X.A.units + 64 < cLine) : CallR X (.builtin "sorted") (rSortT X.K X.mg) := by
  intro pins s σ H xs us Q I r h
  obtain ⟨G, d, ws, rfl, sm, hd, ok, q⟩ := h
  rw [Vals.ref1 r]
  obtain ⟨z, hs, ks, pr, o, es, ep, ho, hx, hdt, he, hn⟩ := (show ObjOk X.prog X.w H s.heap d (.dT ws) from hd.ok I.hok)
  have l1 : es.size = ks.length := size_of_entries he
  have l2 : ws.length = ks.length := Paired.length pr
  obtain ⟨F', g, hk⟩ := grow_keys sm pr
  have sm' : Same F' H := (g.subs sm).1
  obtain ⟨o1, o2, o3, o4, o5⟩ := sortOk_of ok
  have ue := keys_each (K := X.K) (mg := X.mg) pr hk
  refine Calls.call_function_entry kind_sorted plain_sorted entry_sorted (args_sorted1 _) ?_
  unfold Builtin.«sorted»
  refine wpAny_bind (m := checkCount "sorted" 1 1 _) (wpAny_pure (wpAny_bind (PySem.W.kdu_collect (A := X.A.in1) (kdl_raw hs hx hdt) (I.ok.hd hc) ho (by omega) fun h1 tk acc hkeep hacc => ?_)))
  have ea : acc.toList = ks.map fun x => Value.ref x.2.1 := by
    have hl : acc.toList.length = ks.length := by rw [Array.length_toList, hacc.1]; exact l1
    apply List.ext_getElem?
    intro j
    rw [List.getElem?_map]
    cases hj : acc.toList[j]? with
    | none => rw [List.getElem?_eq_none (by have := List.getElem?_eq_none_iff.mp hj; omega)]; rfl
    | some v =>
      obtain ⟨en, hen, hv⟩ := hacc.2 j v (by rw [← Array.getElem?_toList]; exact hj)
      have qe := entry_at he j
      rw [hen] at qe
      cases hb : ks[j]? with
      | none => rw [hb] at qe; exact nomatch (show some en = none from qe)
      | some b =>
        rw [hb] at qe
        have e2 : en = entryOfKey (tupleKind (mixKind X.prog X.w)) b := Option.some.inj qe
        rw [hv, e2]
        rfl
  rw [ea]
  refine wpAny_bind (wpAny_newList ?_ (by rw [List.length_map]; omega))
  have I1 : Inv X pins σ H { s with heap := h1.push { cls := .type "list", data := .seq (ks.map fun x => Value.ref x.2.1).toArray }, toks := tk } := I.kept fun b u e => Heap.get?_push_of_some _ (hkeep b u e)
  have I0 : Inv X pins σ H { s with heap := h1, toks := tk } := I.kept fun b u e => hkeep b u e
  have hH : H h1.objs.size = none := I0.hok.fresh (Nat.le_refl _)
  refine wpAny_bind (wpAny_holding (PySem.W.list_sort_data (R := UD X.K X.mg F') (enc := encD) (a := h1.objs.size) (n := 0) (vs := ks.map fun x => Value.ref x.2.1) (Heap.get?_push_size _ rfl) ue (each_mem2 ue fun u dd hd' hu' => ?_) o2 o3 o5 (fun dd hd' => ?_) fun out hlen eo => ?_))
  · obtain ⟨as, ra⟩ := ud_reads I1 sm' hu' (o1 dd hd')
    obtain ⟨p, _, rfl⟩ := List.mem_map.mp hd'
    have := key_flat (o1 _ hd') ra
    subst this
    exact ⟨[], ra, by simp⟩
  · have := o4 dd hd'
    show X.A.units + 1 + 1 + _ < cLine
    omega
  · obtain ⟨vs, rv, rp⟩ := ud_back eo
    obtain ⟨ep2, he2⟩ := PyProof.Rows.sortedHeap_at (h := h1.push { cls := .type "list", data := .seq (ks.map fun x => Value.ref x.2.1).toArray }) (a := h1.objs.size) (vs := ks.map fun x => Value.ref x.2.1) (n := 0) (out := out.toArray) (Heap.get?_push_size _ rfl)
    have hlen' : vs.length ≤ sizeLine := by rw [rv.length, hlen]; exact o5
    refine wpAny_pure ⟨_, rfl, .ref h1.objs.size, upd H h1.objs.size (.lst vs), ?_, rfl, q F' _ vs g hH rp⟩
    refine I0.laid (t' := tk) (fun b u e => ?_) (Nat.le_refl _) ⟨hlen', out, ep2, rv, he2⟩
    have hb : b < h1.objs.size := Heap.lt_size e
    show (PyProof.Rows.sortedHeap _ _ _ _).get? b = some u
    rw [PyProof.Rows.sortedHeap_old (Nat.ne_of_lt hb) (by rw [Heap.size_push]; exact Nat.lt_succ_of_lt hb)]
    exact Heap.get?_push_of_some _ e
end
def sortD : D → Option Own
  | .lst l => if sortOk l then some (.l (sortL l)) else none
  | .dT kvs => if sortOk (kvs.map fun p => keyD p.1) then some (.l (sortL (kvs.map fun p => keyD p.1))) else none
  | _ => none
theorem RepT.keysEq {K : PySem.W.Frag} {mg : Str → Option Value} {F : Hp} : ∀ {kvs : List (List Key × D)} {ws : List (List Key × V)}, RepT K mg F kvs ws → ws.map (fun p => keyD p.1) = kvs.map fun p => keyD p.1
  | [], ws, h => by unfold RepT at h; subst h; rfl
  | p :: kvs, ws, h => by
    unfold RepT at h
    obtain ⟨v, r, e, h, t⟩ := h
    subst e
    rw [List.map_cons, List.map_cons, RepT.keysEq t]
section
variable {K : PySem.W.Frag} {mg : Str → Option Value}
abbrev rSortA (K : PySem.W.Frag) (mg : Str → Option Value) : List V → Hp → VK → Prop := fun xs H Q => rSortL K mg xs H Q ∨ rSortT K mg xs H Q
theorem s_sort : NwS K mg (rSortA K mg) (on1 sortD) := by
  intro F H ds vs d Q sm br e k
  obtain ⟨x, v, rfl, rfl, h, e0⟩ := on1_of br e
  clear e
  have e := e0
  clear e0
  unfold sortD at e
  split at e
  · rename_i l
    split at e
    · rename_i ok
      cases e
      obtain ⟨a, us, rfl, q, r⟩ := h
      exact .inl ⟨F, a, us, l, rfl, sm, .of q, r, ok, fun p ws hp rp => k p _ F H (.refl _ _) hp ⟨ws, rfl, rp⟩⟩
    · cases e
  · rename_i kvs
    split at e
    · rename_i ok
      cases e
      obtain ⟨a, ws, rfl, q, r⟩ := h
      refine .inr ⟨F, a, ws, rfl, sm, q, by rw [r.keysEq]; exact ok, fun F' p us g hp rp => k p _ F' H g hp ⟨us, rfl, by rw [← r.keysEq]; exact rp⟩⟩
    · cases e
  · cases e
end
section
variable {X : Cx} {W : WX} {k : Nat} {pos p : Pos} {e : Expr} {es : List Expr} {g : DS → Res (List Ar)}
theorem dn_sort (C : Ctx k X W) (hm : X.mg "sorted" = none) (ha : DAs X W (e :: es) g) (hg : Gl X "sorted" := by rfl) (he : starEach (e :: es) X.env = (false, eval e X.env) :: starEach es X.env := by rfl) (hpl : (backTo pos (starEach es X.env)).any (·.1) = false := by rfl) : DN X W (.Call (.Name "sorted" p) (e :: es) [] pos) (nCall (on1 sortD) g) :=
  have hu : X.A.units + 64 < cLine := by have := C.room.un; omega
  dn_callB ((call_sortL hu).or (call_sortT C.calm hu)) s_sort hm (by decide +kernel) ha hg (by decide) (by decide) he hpl
end
end DL

set_option autoImplicit true
/-! D-layer, part s: calls with keywords; a dict beside {}; own ==. -/
namespace DL
open PySem PySem.Spec PyProof.Rows L2
set_option autoImplicit false
def pick {α : Type} (idx : List Nat) (d : α) (xs : List α) : List α := idx.map fun i => xs.getD i d
/-- how a call with n positional values and keywords ks binds -/
structure KwB (K : PySem.W.Frag) (fd : FuncData) (ps : List Str) (n : Nat) (ks : List Str) (idx : List Nat) : Prop where
  to : ∀ (s : Shared) (us ws : List Value), K.In s.heap → us.length = n → ws.length = ks.length → BindsTo s fd ⟨us, ks.zip ws⟩ (ps.zip (pick idx .none (us ++ ws)))
  len : idx.length = ps.length
theorem vals_getD : ∀ {vs : List V} {us : List Value}, Vals vs us → ∀ i, RelV (vs.getD i .non) (us.getD i .none)
  | _, _, .nil, i => by simp only [List.getD_nil]; rfl
  | _, _, .cons r t, 0 => by simpa using r
  | _, _, .cons r t, i + 1 => by simpa using vals_getD t i
theorem vals_pick {vs : List V} {us : List Value} (r : Vals vs us) : ∀ idx : List Nat, Vals (pick idx .non vs) (pick idx .none us)
  | [] => .nil
  | i :: idx => .cons (vals_getD r i) (vals_pick r idx)
theorem vals_app {vs zs : List V} {us ws : List Value} (r : Vals vs us) (r2 : Vals zs ws) : Vals (vs ++ zs) (us ++ ws) := r.append r2
section
variable {K : PySem.W.Frag} {mg : Str → Option Value} {F : Hp} {σ : St}
theorem arsok_app : ∀ {as bs : List Ar} {vs us : List V}, ArsOk K mg F σ as vs → ArsOk K mg F σ bs us → ArsOk K mg F σ (as ++ bs) (vs ++ us)
  | [], _, vs, _, h, h2 => by rw [show vs = [] from h]; exact h2
  | a :: as, bs, vs, us, ⟨v, t, e, h, r⟩, h2 => by subst e; exact ⟨v, t ++ us, rfl, h, arsok_app r h2⟩
theorem arsok_getD : ∀ {as : List Ar} {vs : List V}, ArsOk K mg F σ as vs → ∀ i, ArOk K mg F σ (as.getD i (.v .non)) (vs.getD i .non)
  | [], vs, h, i => by rw [show vs = [] from h]; simp only [List.getD_nil]; exact (show Rep K mg F .non .non from Rep.non)
  | a :: as, vs, ⟨v, t, e, h, r⟩, 0 => by subst e; simpa using h
  | a :: as, vs, ⟨v, t, e, h, r⟩, i + 1 => by subst e; simpa using arsok_getD r i
theorem arsok_pick {as : List Ar} {vs : List V} (h : ArsOk K mg F σ as vs) : ∀ idx : List Nat, ArsOk K mg F σ (pick idx (.v .non) as) (pick idx .non vs)
  | [] => rfl
  | i :: idx => ⟨_, _, rfl, arsok_getD h i, arsok_pick h idx⟩
end
section
variable {X : Cx} {CX : CXT} {k n : Nat} {f C : Addr} {fd : FuncData} {ps ks : List Str} {sp : Sp} {E : St → XK} {x m : Str} {p pos apos : Pos} {e o : Expr} {es : List Expr} {kws : List Keyword} {t tk ta : TA} {to : TE} {idx : List Nat}
theorem run_fnKS {pins : List (Addr × Obj)} {σ : St} {H : Hp} {s : Shared} {Q : VK} {us ws : List Value} {vs zs : List V} (F : FnOk X.prog X.w X.K X.mg X.base CX k f fd ps sp) (hr : Room k X.A) (hb : KwB X.K fd ps n ks idx) (hx : PassesAt CX X σ (E σ))
    (I : Inv X pins σ H s) (r : Vals vs us) (rz : Vals zs ws) (l1 : vs.length = n) (l2 : zs.length = ks.length) (h : sp (pick idx .non (vs ++ zs)) H Q (E σ)) : wpAny (model X.prog X.w) X.A (call (.ref f) us (ks.zip ws)) (EP X pins σ Q) X.xe s := by
  refine wpAny_call (codeAny_mono (F.run X.A X.stack s H ⟨us, ks.zip ws⟩ (pick idx .none (us ++ ws)) (pick idx .non (vs ++ zs)) Q (E σ) hr I.env0 (hb.to s us ws I.kIn (r.length.symm.trans l1) (rz.length.symm.trans l2)) (vals_pick (vals_app r rz) idx) h) fun res s' hq => ?_)
  cases res with
  | error e => exact hx pins H s e s' I hq
  | ok fl =>
    cases fl with
    | ret u => exact I.after hq
    | next => exact False.elim hq
    | brk => exact False.elim hq
    | cont => exact False.elim hq
def tCallKS (n m : Nat) (idx : List Nat) (sp : Sp) (E : St → XK) (t tk : TA) : TE := fun σ H Q => t σ H fun vs H1 => tk σ H1 fun zs H2 => vs.length = n ∧ zs.length = m ∧ sp (pick idx .non (vs ++ zs)) H2 Q (E σ)
theorem pe_fnK (F : FnOk X.prog X.w X.K X.mg X.base CX k f fd ps sp) (hr : Room k X.A) (hg : Gl X x) (hm : X.mg x = some (.ref f)) (hk : PySem.W.keepIn X.K (.ref f) = true) (hb : KwB X.K fd ps n ks idx) (hx : ∀ σ, PassesAt CX X σ (E σ))
    (ha : PA X (e :: es) t) (hkw : PK X kws tk) (hall : (backToKw pos (keywordEach kws X.env)).all (·.1.isSome) = true) (hks : (backToKw pos (keywordEach kws X.env)).filterMap (·.1) = ks)
    (hdb : (x == ("__debug__" : Str)) = false) (he : starEach (e :: es) X.env = (false, eval e X.env) :: starEach es X.env)
    (hpl : ((backTo pos (starEach (e :: es) X.env)).any (·.1) || (backToKw pos (keywordEach kws X.env)).any (·.1.isNone)) = false) :
    PE X (.Call (.Name x p) (e :: es) kws pos) (tCallKS n ks.length idx sp E t tk) := by
  refine ⟨fun pins s σ H Q I h => wpAny_Call_Name_kw (ld_glob I hg hm (PySem.W.callWith_KW (h₀ := X.base) I.ok.mod.kin hk hall (thn (ha.run pos pins s σ H _ I h) fun us s1 ⟨vs, H1, I1, r, q⟩ => ?_) hpl he) hdb)⟩
  refine thn (hkw.run pos pins s1 σ H1 _ I1 q) fun ws s2 ⟨zs, H2, I2, rz, l1, l2, q2⟩ => ⟨I2.kIn, ?_⟩
  rw [hks]; exact run_fnKS F hr hb (hx σ) I2 r rz l1 l2 q2
theorem pe_fnK0 (F : FnOk X.prog X.w X.K X.mg X.base CX k f fd ps sp) (hr : Room k X.A) (hg : Gl X x) (hm : X.mg x = some (.ref f)) (hk : PySem.W.keepIn X.K (.ref f) = true) (hb : KwB X.K fd ps 0 ks idx) (hx : ∀ σ, PassesAt CX X σ (E σ))
    (hkw : PK X kws tk) (hall : (backToKw pos (keywordEach kws X.env)).all (·.1.isSome) = true) (hks : (backToKw pos (keywordEach kws X.env)).filterMap (·.1) = ks) (hdb : (x == ("__debug__" : Str)) = false)
    (hpl : ((backTo pos (starEach [] X.env)).any (·.1) || (backToKw pos (keywordEach kws X.env)).any (·.1.isNone)) = false) :
    PE X (.Call (.Name x p) [] kws pos) (tCallKS 0 ks.length idx sp E tNil tk) := by
  refine ⟨fun pins s σ H Q I h => wpAny_Call_Name_kw (ld_glob I hg hm (PySem.W.callWith_KW0 (h₀ := X.base) I.ok.mod.kin hk hall ?_ hpl) hdb)⟩
  refine thn (hkw.run pos pins s σ H _ I h) fun ws s2 ⟨zs, H2, I2, rz, l1, l2, q2⟩ => ⟨I2.kIn, ?_⟩
  rw [hks]; exact run_fnKS (us := []) (vs := []) F hr hb (hx σ) I2 .nil rz rfl l2 q2
def tMethKS (C : Addr) (m : Str) (n j : Nat) (idx : List Nat) (sp : Sp) (E : St → XK) (to : TE) (t tk : TA) : TE := fun σ H Q => to σ H fun x H1 => ∃ a dx fs, x = .ref a ∧ H1 a = some (.ins C dx fs) ∧ fs.lookup m = none ∧
  t σ H1 fun vs H2 => tk σ H2 fun zs H3 => vs.length = n ∧ zs.length = j ∧ sp (pick idx .non ((x :: vs) ++ zs)) H3 Q (E σ)
theorem pe_methK0 {pl : Sem Bool} (he : PE X o to) (c : Cls X.K C) (hm : Meth X.K C m f) (F : FnOk X.prog X.w X.K X.mg X.base CX k f fd ps sp) (hr : Room k X.A) (hb : KwB X.K fd ps 1 ks idx) (hx : ∀ σ, PassesAt CX X σ (E σ)) (hkw : PK X kws tk)
    (hall : (backToKw pos (keywordEach kws X.env)).all (·.1.isSome) = true) (hks : (backToKw pos (keywordEach kws X.env)).filterMap (·.1) = ks) (hpl : ((backTo pos (starEach [] X.env)).any (·.1) || (backToKw pos (keywordEach kws X.env)).any (·.1.isNone)) = false)
    (ht : eval (.Call (.Attribute o m apos) [] kws pos) X.env = (do
      let ov ← eval o X.env
      standAt apos.atName
      let (f, first) ← holding [ov] (getMethod ov m pl)
      callWith pos f first (backTo pos (starEach [] X.env)) (backToKw pos (keywordEach kws X.env)))) :
    PE X (.Call (.Attribute o m apos) [] kws pos) (tMethKS C m 0 ks.length idx sp E to tNil tk) := by
  refine ⟨fun pins s σ H Q I h => PySem.W.methodCall_KW (pl := pl) (thn (he.run pins s σ H _ I h) fun u s1 ⟨x, H1, I1, rx, a, dx, fs, ex, ea, l, q⟩ => ?_) ht⟩
  subst ex
  obtain rfl : u = Value.ref a := rx
  refine getmeth_ok I1 ea c hm l (PySem.W.callWith_KW0 (first := [.ref a]) (h₀ := X.base) I.ok.mod.kin hm.kp hall ?_ hpl)
  refine thn (hkw.run pos pins s1 σ H1 _ I1 q) fun ws s2 ⟨zs, H2, I2, rz, l1, l2, q2⟩ => ⟨I2.kIn, ?_⟩
  rw [hks]; exact run_fnKS (us := [.ref a]) (vs := [.ref a]) F hr hb (hx σ) I2 (.cons rfl .nil) rz rfl l2 q2
end
/-! ### the plain side -/
def eFnK (m : DS → Res D) (idx : List Nat) (f g : DS → Res (List Ar)) : DS → Res D := fun s => (f s).bind fun as s => (g s).bind fun bs s => callM m (pick idx (.v .non) (as ++ bs)) s
/-- o.m(.., k = v) -/
def eMethK (c mn : Str) (m : DS → Res D) (idx : List Nat) (fo : DS → Res Ar) (g : DS → Res (List Ar)) : DS → Res D := fun s => (fo s).bind fun a s => match a.d s with
  | some (.obj c' fs) => if c' = c ∧ fs.lookup mn = none then (g s).bind fun bs s => callM m (pick idx (.v .non) (a :: bs)) s else .bad
  | _ => .bad
section
variable {X : Cx} {W : WX} {pos p apos kpos : Pos} {e o : Expr} {es : List Expr} {kws : List Keyword} {x : Str} {k j n : Nat} {ps ks : List Str} {m : DS → Res D} {idx : List Nat}
abbrev DKs (X : Cx) (W : WX) (kws : List Keyword) (f : DS → Res (List Ar)) : Prop := PK X kws (tDA X.K X.mg W f)
theorem PK.imp {kws : List Keyword} {t t' : TA} (h : PK X kws t) (i : ∀ σ H Q, t' σ H Q → t σ H Q) : PK X kws t' := ⟨fun pos pins s σ H Q I q => h.run pos pins s σ H Q I (i σ H Q q)⟩
theorem dks_nil : DKs X W [] asNil := PK.imp pk_nil fun σ H Q ⟨B, F, ds, r, p⟩ => p [] F H r (Same.refl _) rfl
theorem dks_cons {nm : Option Str} {f : DS → Res Ar} {g : DS → Res (List Ar)} (h : DA1 X W e f) (hr : DKs X W kws g) : DKs X W (⟨nm, e, kpos⟩ :: kws) (asCons f g) := by
  refine PK.imp (pk_cons h hr) fun σ H Q ⟨B, F, ds, r, p⟩ => ⟨B, F, ds, r, ?_⟩
  refine p.bind.mono (fun a s p v F' H' r' s' q => ⟨B, F', s, r', p.bind.mono (fun as s2 p vs F2 H2 r2 s2' q2 => p (v :: vs) F2 H2 r2 (s'.trans s2') ⟨v, vs, rfl, q.keeps s2', q2⟩) fun _ _ h => h.mono s'⟩) fun _ _ h => h
/-- what is known of a def called with keywords -/
structure DefK (X : Cx) (j : Nat) (x : Str) (ps : List Str) (n : Nat) (ks : List Str) (idx : List Nat) (m : DS → Res D) : Prop where
  ex : ∃ f fd, FnOk X.prog X.w X.K X.mg X.base (L2.CX X.prog X.w) j f fd ps (spD X.K X.mg ps.length m) ∧ X.mg x = some (.ref f) ∧ PySem.W.keepIn X.K (.ref f) = true ∧ KwB X.K fd ps n ks idx
theorem pick_len {α : Type} (idx : List Nat) (d : α) (xs : List α) : (pick idx d xs).length = idx.length := by unfold pick; simp
theorem callK_read {B : Base} {F F1 H2 : Hp} {σ : St} {s2 : DS} {as bs : List Ar} {vs zs : List V} {Q : VK} (hl : idx.length = ps.length) (r2 : Rel X.K X.mg B F1 H2 σ s2) (sm : Same F F1) (q : ArsOk X.K X.mg F1 σ as vs) (q2 : ArsOk X.K X.mg F1 σ bs zs)
    (p : Post B F (callM m (pick idx (.v .non) (as ++ bs)) s2) (fun d ds' => ∀ v F' H', Rel X.K X.mg B F' H' σ ds' → Same F F' → Rep X.K X.mg F' d v → Q v H') (Raised X.K X.mg B F W σ)) : spD X.K X.mg ps.length m (pick idx .non (vs ++ zs)) H2 Q (WE W σ) :=
  call_read r2 (arsok_pick (arsok_app q q2) idx) (by rw [pick_len, hl]) sm p
theorem de_fnK {g gk : DS → Res (List Ar)} (C : Ctx k X W) (d : DefK X j x ps n ks idx m) (hj : j ≤ k) (ha : DAs X W (e :: es) g) (hlen : ArLen g n) (hkw : DKs X W kws gk) (hlk : ArLen gk ks.length) (hg : Gl X x := by rfl) (hdb : (x == ("__debug__" : Str)) = false := by decide)
    (hall : (backToKw pos (keywordEach kws X.env)).all (·.1.isSome) = true := by rfl) (hks : (backToKw pos (keywordEach kws X.env)).filterMap (·.1) = ks := by rfl) (he : starEach (e :: es) X.env = (false, eval e X.env) :: starEach es X.env := by rfl)
    (hpl : ((backTo pos (starEach (e :: es) X.env)).any (·.1) || (backToKw pos (keywordEach kws X.env)).any (·.1.isNone)) = false := by rfl) : DE X W (.Call (.Name x p) (e :: es) kws pos) (eFnK m idx g gk) := by
  obtain ⟨f, fd, F, hm, hk, hb⟩ := d.ex
  refine PE.imp (pe_fnK F (C.room.mono hj) hg hm hk hb (fun σ => passAt C.tk σ) ha hkw hall hks hdb he hpl) fun σ H Q ⟨B, F, ds, r, p⟩ => ⟨B, F, ds, r, ?_⟩
  unfold eFnK at p
  revert p
  cases eg : g ds with
  | ex x s => exact fun p => p
  | bad => exact fun p => p
  | ok as s =>
    intro p vs F' H' r' sm q
    refine ⟨B, F', s, r', ?_⟩
    rw [Res.bind_ok] at p
    revert p
    cases ek : gk s with
    | ex x s => exact fun p => Raised.mono sm p
    | bad => exact fun p => p
    | ok bs s2 => exact fun p zs F2 H2 r2 sm2 q2 => ⟨by rw [q.len]; exact hlen _ _ _ eg, by rw [q2.len]; exact hlk _ _ _ ek, callK_read hb.len r2 (sm.trans sm2) (q.keeps sm2) q2 p⟩
theorem de_fnK0 {gk : DS → Res (List Ar)} (C : Ctx k X W) (d : DefK X j x ps 0 ks idx m) (hj : j ≤ k) (hkw : DKs X W kws gk) (hlk : ArLen gk ks.length) (hg : Gl X x := by rfl) (hdb : (x == ("__debug__" : Str)) = false := by decide)
    (hall : (backToKw pos (keywordEach kws X.env)).all (·.1.isSome) = true := by rfl) (hks : (backToKw pos (keywordEach kws X.env)).filterMap (·.1) = ks := by rfl)
    (hpl : ((backTo pos (starEach [] X.env)).any (·.1) || (backToKw pos (keywordEach kws X.env)).any (·.1.isNone)) = false := by rfl) : DE X W (.Call (.Name x p) [] kws pos) (eFnK m idx asNil gk) := by
  obtain ⟨f, fd, F, hm, hk, hb⟩ := d.ex
  refine PE.imp (pe_fnK0 F (C.room.mono hj) hg hm hk hb (fun σ => passAt C.tk σ) hkw hall hks hdb hpl) fun σ H Q ⟨B, F, ds, r, p⟩ => ⟨B, F, ds, r, ?_⟩
  unfold eFnK asNil at p
  rw [Res.bind_ok] at p
  revert p
  cases ek : gk ds with
  | ex x s => exact fun p => p
  | bad => exact fun p => p
  | ok bs s2 => exact fun p zs F2 H2 r2 sm2 q2 => ⟨rfl, by rw [q2.len]; exact hlk _ _ _ ek, callK_read hb.len r2 sm2 (as := []) (vs := []) rfl q2 p⟩
structure MethK (X : Cx) (j : Nat) (c mn : Str) (ps : List Str) (ks : List Str) (idx : List Nat) (m : DS → Res D) : Prop where
  ex : ∃ C f fd, X.mg c = some (.ref C) ∧ Cls X.K C ∧ Meth X.K C mn f ∧ FnOk X.prog X.w X.K X.mg X.base (L2.CX X.prog X.w) j f fd ps (spD X.K X.mg ps.length m) ∧ KwB X.K fd ps 1 ks idx
theorem de_methK0 {pl : Sem Bool} {c mn : Str} {f : DS → Res Ar} {gk : DS → Res (List Ar)} (C : Ctx k X W) (d : MethK X j c mn ps ks idx m) (hj : j ≤ k) (ho : DA1 X W o f) (hkw : DKs X W kws gk) (hlk : ArLen gk ks.length)
    (hall : (backToKw pos (keywordEach kws X.env)).all (·.1.isSome) = true := by rfl) (hks : (backToKw pos (keywordEach kws X.env)).filterMap (·.1) = ks := by rfl) (hpl : ((backTo pos (starEach [] X.env)).any (·.1) || (backToKw pos (keywordEach kws X.env)).any (·.1.isNone)) = false := by rfl)
    (ht : eval (.Call (.Attribute o mn apos) [] kws pos) X.env = (do
      let ov ← eval o X.env
      standAt apos.atName
      let (f, first) ← holding [ov] (getMethod ov mn pl)
      callWith pos f first (backTo pos (starEach [] X.env)) (backToKw pos (keywordEach kws X.env))) := by rfl) :
    DE X W (.Call (.Attribute o mn apos) [] kws pos) (eMethK c mn m idx f gk) := by
  obtain ⟨Ca, fa, fd, hc, cl, hm, F, hb⟩ := d.ex
  refine PE.imp (pe_methK0 ho cl hm F (C.room.mono hj) hb (fun σ => passAt C.tk σ) hkw hall hks hpl ht) fun σ H Q ⟨B, F, ds, r, p⟩ => ⟨B, F, ds, r, p.bind.mono (fun a s pp v F' H' r' sm q => ?_) fun _ _ h => h⟩
  cases ea : a.d s with
  | none => rw [ea] at pp; exact pp.elim
  | some dd =>
    rw [ea] at pp
    cases dd with
    | obj c' fs =>
      dsimp only at pp
      by_cases hcc : c' = c ∧ fs.lookup mn = none
      case neg => rw [if_neg hcc] at pp; exact pp.elim
      rw [if_pos hcc] at pp
      obtain ⟨rfl, hl⟩ := hcc
      obtain ⟨a', C', dx, ws, rfl, hm', hh, rf⟩ := q.brep r' ea
      rw [hc] at hm'; cases hm'
      refine ⟨a', dx, ws, rfl, hh, rf.lookup.1 hl, B, F', s, r', ?_⟩
      revert pp
      cases ek : gk s with
      | ex x s => exact fun p => Raised.mono sm p
      | bad => exact fun p => p
      | ok bs s2 =>
        intro p zs F2 H2 r2 sm2 q2
        exact ⟨rfl, by rw [q2.len]; exact hlk _ _ _ ek, callK_read (as := [a]) (bs := bs) (vs := [.ref a']) hb.len r2 (sm.trans sm2) ⟨_, [], rfl, q.keeps sm2, rfl⟩ q2 p⟩
    | _ => exact pp.elim
end
end DL

set_option autoImplicit true
/-! D-layer, part t: a dict beside {}; own ==; displays with tuple keys. -/
namespace DL
open PySem PySem.Spec PyProof.Rows L2
set_option autoImplicit false
/-! ### d == {} -/
theorem dict_eq_empty {prog : Program} {w : World} {A : Around} {E : Value → Shared → Prop} {s : Shared} {a b : Addr} {oa ob : Obj} {es : Array DictEntry} {ep eq : Nat} {Q : Value → Shared → Prop} (sa : (a == sysModules) = false) (sb : (b == sysModules) = false)
    (ga : s.heap.get? a = some oa) (xa : oa.ExactDict) (da : oa.data = .dict es ep) (gb : s.heap.get? b = some ob) (xb : ob.ExactDict) (db : ob.data = .dict #[] eq) (hu : A.units < cLine) (h : Q (.bool (es.size == 0)) s) :
    wpAny (model prog w) A (compareOp .Eq (.ref a) (.ref b)) Q E s := by
  have ta : s.TypeIs (.ref a) "dict" := ⟨oa, ga, xa.1⟩
  have tb : s.TypeIs (.ref b) "dict" := ⟨ob, gb, xb.1⟩
  have same : ∀ {A' : Around} {E' : Value → Shared → Prop} {Q' : Bool → Shared → Prop} {nm : String}, Q' (es.size == 0) s → wpAny (model prog w) A' (Builtin.Dict.samePairs nm a b) Q' E' s := fun {A' E' Q' nm} hq => by
    unfold Builtin.Dict.samePairs Builtin.Dict.showsAll
    rw [if_neg (by rw [sa]; exact Bool.false_ne_true), if_neg (by rw [sb]; exact Bool.false_ne_true)]
    refine wpAny_bind (wpAny_pure (wpAny_bind (wpAny_pure (wpAny_bind (wpAny_dictEntries ga da (wpAny_bind (wpAny_dictEntries gb db ?_)))))))
    by_cases hz : es.size = 0
    · rw [if_neg (by rw [hz]; simp)]
      refine wpAny_bind (wpAny_dictEpoch ga da (wpAny_bind ?_))
      rw [hz] at hq ⊢
      rw [Std.Legacy.Range.forIn_eq_forIn_range']
      exact wpAny_pure (wpAny_pure hq)
    · have hb : (es.size == 0) = false := by simpa using hz
      rw [hb] at hq
      rw [if_pos (by simpa using hz)]
      exact wpAny_bind (wpAny_rule (wpAny_pure hq))
  refine wpAny_richCompare_same_room (op := .Eq) ta tb PySem.F.slot_dict_eq (wpAny_call_entry PySem.F.slot_dict_eq ta PySem.F.entry_dict_eq ?_ (PySem.F.args_dict_eq_2 _ _)) hu
  refine wpAny_bind (m := Builtin.Dict.dictSlotArgs "__eq__" ⟨[.ref a, .ref b], []⟩) ?_
  unfold Builtin.Dict.dictSlotArgs
  refine wpAny_bind (wpAny_notOrdered_dict ta (wpAny_pure (wpAny_bind (wpAny_isInstance (T := "dict") tb PySem.F.sub_dict_dict ?_))))
  simp only [Bool.not_true, Bool.false_eq_true, if_false]
  refine wpAny_bind (wpAny_pure (wpAny_bind (wpAny_pure (wpAny_bind (same ?_)))))
  refine wpAny_pure ⟨_, rfl, ?_⟩
  exact ⟨(fun x => nomatch x), by simpa using h⟩
def eqE : D → Option D
  | .dT kvs => some (.bl kvs.isEmpty)
  | .dK kvs => some (.bl kvs.isEmpty)
  | _ => none
def rEqE : R2 := fun x y H Q => ∃ a b, x = .ref a ∧ y = .ref b ∧ H b = some (.dK []) ∧ ((∃ kvs, Rd H a (.dT kvs) ∧ Q (.bl kvs.isEmpty) H) ∨ ∃ kvs, Rd H a (.dK kvs) ∧ Q (.bl kvs.isEmpty) H)
section
variable {X : Cx} {W : WX} {k : Nat} {pos p2 : Pos} {e : Expr} {f : DS → Res Ar}
theorem op_eqE (hu : X.A.units < cLine) : OpR X (compareOp .Eq) rEqE := by
  intro pins s σ H x y v u Q I rx ry h
  obtain ⟨a, b, rfl, rfl, hb, h⟩ := h
  cases rx; cases ry
  obtain ⟨_, sb, vs, rel, ob, es', eq, gb, xb, db, kb, pb, _⟩ := dk_of I.hok hb
  cases rel
  have e0 : es' = #[] := by
    have h1 := pb.length
    exact Array.eq_empty_of_size_eq_zero (by rw [← Array.length_toList, h1]; rfl)
  subst e0
  rcases h with ⟨kvs, ha, q⟩ | ⟨kvs, ha, q⟩
  · obtain ⟨_, sa, xs, rel, oa, es, ep, ga, xa, da, he, _⟩ := dt_rd I.hok ha
    refine dict_eq_empty sa sb ga xa da gb xb db hu ⟨.bl _, H, I, ?_, q⟩
    have l1 : es.size = xs.length := size_of_entries he
    have l2 := Paired.length rel
    show Value.bool _ = Value.bool _
    congr 1
    cases kvs with
    | nil => simp [l1, ← l2]
    | cons p r => simp [l1, ← l2]
  · obtain ⟨_, sa, xs, rel, oa, es, ep, ga, xa, da, he, hp, _⟩ := dk_rd I.hok ha
    refine dict_eq_empty sa sb ga xa da gb xb db hu ⟨.bl _, H, I, ?_, q⟩
    have l1 : xs.length = es.size := by rw [← hp.length]; exact Array.length_toList
    have l2 := rel.length
    show Value.bool _ = Value.bool _
    congr 1
    cases kvs with
    | nil => simp [← l1, ← l2]
    | cons p r => simp [← l1, ← l2]
def eqE_d (f : DS → Res Ar) : DS → Res D := eOp1 eqE f
theorem eqE_read {σ : St} {H : Hp} {Q : VK} (h : tD X.K X.mg W (eOp1 eqE f) σ H Q) : tOp rEqE (tD1 X.K X.mg W f) tDNewK σ H Q := by
  obtain ⟨B, F, ds, r, p⟩ := h
  refine ⟨B, F, ds, r, p.bind.mono (fun a s p v F' H' r' s' q b hb => ?_) fun _ _ h => h⟩
  cases e2 : a.d s with
  | none => rw [e2] at p; exact p.elim
  | some d =>
    rw [e2, Option.bind_some] at p
    have r2 := r'.allocH (o := .dK []) hb
    have br := q.brep r2 e2
    cases d with
    | dT kvs =>
      obtain ⟨pa, ws, rfl, hd, rt⟩ := br
      refine ⟨pa, b, rfl, rfl, upd_same, .inl ⟨ws, hd, ?_⟩⟩
      have e : ws.isEmpty = kvs.isEmpty := by
        have := rt.len
        cases kvs <;> cases ws <;> simp_all
      rw [e]
      exact p _ F' _ r2 s' Rep.bl
    | dK kvs =>
      obtain ⟨pa, ws, rfl, hd, rt⟩ := br
      refine ⟨pa, b, rfl, rfl, upd_same, .inr ⟨ws, hd, ?_⟩⟩
      have e : ws.isEmpty = kvs.isEmpty := by
        have := rt.len
        cases kvs <;> cases ws <;> simp_all
      rw [e]
      exact p _ F' _ r2 s' Rep.bl
    | _ => exact p.elim
theorem de_eqE (C : Ctx k X W) (he : DA1 X W e f) : DE X W (.Compare e [.Eq] [.Dict [] [] p2] pos) (eOp1 eqE f) := PE.imp (pe_cmpR (op_eqE C.room.units0) he pe_dnewK (nomark _)) fun _ _ _ h => eqE_read h
theorem dt_eqE (C : Ctx k X W) (he : DA1 X W e f) : DT X W (.Compare e [.Eq] [.Dict [] [] p2] pos) (tB (eOp1 eqE f)) := PT.imp (pt_cmpR (op_eqE C.room.units0) he pe_dnewK (nomark _)) fun _ _ _ h => eqE_read (tb_of h)
end
/-! ### x == y, both of a class with its own == -/
def eqO (c : Str) (m : DS → Res D) (f g : DS → Res Ar) : DS → Res D := fun s => (f s).bind fun a s => (g s).bind fun b s => match a.d s, b.d s with
  | some (.obj c1 fs), some (.obj c2 gs) => if c1 = c ∧ c2 = c then (match callM m [a, b] s with
    | .ok (.bl r) s => .ok (.bl r) s
    | _ => .bad) else .bad
  | _, _ => .bad
def rEqO (K : PySem.W.Frag) (mg : Str → Option Value) (C : Addr) (m : DS → Res D) : R2 := fun x y H Q => ∃ a b dx dy fs gs, x = .ref a ∧ y = .ref b ∧ H a = some (.ins C dx fs) ∧ H b = some (.ins C dy gs) ∧ spD K mg 2 m [x, y] H (fun v H' => ∃ r, v = .bl r ∧ Q (.bl r) H') (fun _ _ _ => False)
structure EqO (X : Cx) (j : Nat) (c : Str) (m : DS → Res D) : Prop where
  ex : ∃ C f fd ps, X.mg c = some (.ref C) ∧ PySem.W.findIn X.K (.ref C) "__eq__" = some (some (.ref f)) ∧ PySem.W.isFn X.K (.ref f) = true ∧ ps.length = 2 ∧ FnOk X.prog X.w X.K X.mg X.base (L2.CX X.prog X.w) j f fd ps (spD X.K X.mg ps.length m) ∧ Binds X.K fd ps []
section
variable {X : Cx} {W : WX} {k j : Nat} {pos : Pos} {a b : Expr} {f g : DS → Res Ar} {c : Str} {m : DS → Res D}
theorem op_eqO {C fa : Addr} {fd : FuncData} {ps : List Str} (hr : Room j X.A) (hs : PySem.W.findIn X.K (.ref C) "__eq__" = some (some (.ref fa))) (hf : PySem.W.isFn X.K (.ref fa) = true) (h2 : ps.length = 2)
    (F : FnOk X.prog X.w X.K X.mg X.base (L2.CX X.prog X.w) j fa fd ps (spD X.K X.mg ps.length m)) (hb : Binds X.K fd ps []) : OpR X (compareOp .Eq) (rEqO X.K X.mg C m) := by
  intro pins s σ H x y v u Q I rx ry h
  obtain ⟨a, b, dx, dy, fs, gs, rfl, rfl, ha, hb', h⟩ := h
  cases rx; cases ry
  obtain ⟨mA, J, _⟩ := ins_get I.hok ha
  obtain ⟨mB, J', _⟩ := ins_get I.hok hb'
  obtain ⟨od, J, _⟩ := J.look
  obtain ⟨od', J', _⟩ := J'.look
  obtain ⟨mm, hF⟩ := I.fr
  show wpAny (model X.prog X.w) X.A (richCompare .Eq (.ref a) (.ref b)) (EP X pins σ Q) X.xe s
  refine PySem.W.cmp_K (op := .Eq) (tb := .ref C) hr.units0 hF I.ok.mod.kin J J'.type (by simp [PySem.W.notFirst]) hs hf ?_
  rw [← h2] at h
  refine wpAny_mono (run_fnS (us := [.ref a, .ref b]) (vs := [.ref a, .ref b]) (E := WE WF) (σ := σ) F hr hb (passAt takes0 σ) I (.cons rfl (.cons rfl .nil)) h) (fun r s' q => ?_) fun _ _ e => e
  obtain ⟨z, H', I', rz, r', ez, q'⟩ := q
  subst ez
  cases rz
  exact ⟨.bl r', H', I', rfl, q'⟩
theorem eqO_read {C : Addr} (hC : X.mg c = some (.ref C)) {σ : St} {H : Hp} {Q : VK} (h : tD X.K X.mg W (eqO c m f g) σ H Q) : tOp (rEqO X.K X.mg C m) (tD1 X.K X.mg W f) (tD1 X.K X.mg W g) σ H Q := by
  obtain ⟨B, F, s, rl, p0⟩ := h
  refine ⟨B, F, s, rl, p0.bind.mono (fun a s1 p1 v F1 H1 r1 sm1 q1 => ⟨B, F1, s1, r1, p1.bind.mono (fun b s2 p w F2 H2 r2 sm2 q2 => ?_) fun x s h => h.mono sm1⟩) fun x s h => h⟩
  split at p
  · rename_i c1 fs c2 gs e1 e2
    split at p
    · rename_i hc
      obtain ⟨rfl, rfl⟩ := hc
      have q1' := q1.keeps sm2
      obtain ⟨pa, Ca, dx, ws, rfl, hm1, h1, _⟩ := q1'.brep r2 e1
      obtain ⟨pb, Cb, dy, us, rfl, hm2, h2, _⟩ := q2.brep r2 e2
      rw [hC] at hm1 hm2; cases hm1; cases hm2
      refine ⟨pa, pb, dx, dy, ws, us, rfl, rfl, h1, h2, ?_⟩
      refine call_read (W := WF) (F0 := F2) (as := [a, b]) (n := 2) r2 ⟨_, _, rfl, q1', _, _, rfl, q2, rfl⟩ rfl (Same.refl _) ?_
      revert p
      cases callM m [a, b] s2 with
      | bad => exact fun p => p.elim
      | ex x s => exact fun p => p.elim
      | ok d s3 =>
        cases d with
        | bl r => exact fun p v F' H' r' sm q => ⟨r, Rep.bl_ q, p _ F' H' r' ((sm1.trans sm2).trans sm) Rep.bl⟩
        | _ => exact fun p => p.elim
    · exact p.elim
  · exact p.elim
theorem de_eqO (C : Ctx k X W) (d : EqO X j c m) (hj : j ≤ k) (ha : DA1 X W a f) (hb : DA1 X W b g) : DE X W (.Compare a [.Eq] [b] pos) (eqO c m f g) := by
  obtain ⟨Ca, fa, fd, ps, hC, hs, hf, h2, F, hbd⟩ := d.ex
  exact PE.imp (pe_cmpR (op_eqO (C.room.mono hj) hs hf h2 F hbd) ha hb (nomark _)) fun _ _ _ h => eqO_read hC h
theorem dt_eqO (C : Ctx k X W) (d : EqO X j c m) (hj : j ≤ k) (ha : DA1 X W a f) (hb : DA1 X W b g) : DT X W (.Compare a [.Eq] [b] pos) (tB (eqO c m f g)) := by
  obtain ⟨Ca, fa, fd, ps, hC, hs, hf, h2, F, hbd⟩ := d.ex
  exact PT.imp (pt_cmpR (op_eqO (C.room.mono hj) hs hf h2 F hbd) ha hb (nomark _)) fun _ _ _ h => eqO_read hC (tb_of h)
end
end DL

set_option autoImplicit true
/-! D-layer, part u: dict displays with tuple keys. -/
namespace DL
open PySem PySem.Spec PyProof.Rows L2
set_option autoImplicit false
def pairsM : List ((DS → Res D) × (DS → Res D)) → DS → Res (List (D × D))
  | [], s => .ok [] s
  | (f, g) :: r, s => (f s).bind fun k s => (g s).bind fun v s => (pairsM r s).bind fun ps s => .ok ((k, v) :: ps) s
def keyed : List (D × D) → Option (List (List Key × D))
  | [] => some []
  | (k, v) :: r => match dKeys k, keyed r with
    | some ks, some t => some ((ks, v) :: t)
    | _, _ => none
def nDispT (fs : List ((DS → Res D) × (DS → Res D))) : DS → Res Own := fun s => (pairsM fs s).bind fun ps s => match keyed ps with
  | some kvs => .ok (.T (mergeD [] kvs)) s
  | none => .bad
section
variable (K : PySem.W.Frag) (mg : Str → Option Value) (W : WX)
def trD (fs : List ((DS → Res D) × (DS → Res D))) : List (TE × TE) := fs.map fun p => (tD K mg W p.1, tD K mg W p.2)
end
section
variable {K : PySem.W.Frag} {mg : Str → Option Value} {W : WX}
def RepPs (K : PySem.W.Frag) (mg : Str → Option Value) (F : Hp) : List (D × D) → List (V × V) → Prop
  | [], vs => vs = []
  | p :: ps, vs => ∃ x y r, vs = (x, y) :: r ∧ Rep K mg F p.1 x ∧ Rep K mg F p.2 y ∧ RepPs K mg F ps r
theorem RepPs.keeps {F F' : Hp} (k : Same F F') : ∀ {ps : List (D × D)} {vs : List (V × V)}, RepPs K mg F ps vs → RepPs K mg F' ps vs
  | [], _, h => h
  | p :: ps, _, ⟨x, y, r, e, h1, h2, t⟩ => ⟨x, y, r, e, Rep.keeps (Same.keeps k) _ _ h1, Rep.keeps (Same.keeps k) _ _ h2, RepPs.keeps k t⟩
theorem pairs_read {B : Base} {σ : St} : ∀ {fs : List ((DS → Res D) × (DS → Res D))} {F H : Hp} {s : DS} {Q : List (V × V) → Hp → Prop}, Rel K mg B F H σ s →
    Post B F (pairsM fs s) (fun ps s' => ∀ vs F' H', Rel K mg B F' H' σ s' → Same F F' → RepPs K mg F' ps vs → Q vs H') (Raised K mg B F W σ) → tPairs (trD K mg W fs) σ H Q
  | [], F, H, s, Q, r, p => p [] F H r (Same.refl _) rfl
  | (f, g) :: fs, F, H, s, Q, r, p => by
    refine ⟨B, F, s, r, p.bind.mono (fun k s1 p1 x F1 H1 r1 sm1 q1 => ⟨B, F1, s1, r1, p1.bind.mono (fun v s2 p2 y F2 H2 r2 sm2 q2 => ?_) fun _ _ h => h.mono sm1⟩) fun _ _ h => h⟩
    exact pairs_read (F := F2) (fs := fs) r2 (p2.bind.mono (fun ps s3 p3 vs F3 H3 r3 sm3 q3 => p3 _ F3 H3 r3 ((sm1.trans sm2).trans sm3) ⟨x, y, vs, rfl, Rep.keeps (Same.keeps (sm2.trans sm3)) _ _ q1, Rep.keeps (Same.keeps sm3) _ _ q2, q3⟩) fun _ _ h => h.mono (sm1.trans sm2))
end
section
variable {X : Cx} {W : WX} {pos : Pos} {keys : List (Option Expr)} {values : List Expr}
abbrev DPs (X : Cx) (W : WX) (pos : Pos) (keys : List (Option Expr)) (values : List Expr) (fs : List ((DS → Res D) × (DS → Res D))) : Prop := PPs X pos keys values (trD X.K X.mg W fs)
theorem dps_nil : DPs X W pos [] [] [] := pps_nil
theorem dps_cons {k v : Expr} {ks : List (Option Expr)} {vs : List Expr} {f g : DS → Res D} {fs : List ((DS → Res D) × (DS → Res D))} (hk : DE X W k f) (hv : DE X W v g) (hr : DPs X W pos ks vs fs) : DPs X W pos (some k :: ks) (v :: vs) ((f, g) :: fs) := pps_cons hk hv hr
/-- the pairs with tuple keys, as they stand -/
theorem keyed_stand {pins : List (Addr × Obj)} {σ : St} {H F : Hp} {s : Shared} (I : Inv X pins σ H s) (sm : Same F H) : ∀ {ps : List (D × D)} {vs : List (V × V)} {us : List (Value × Value)} {kvs : List (List Key × D)}, RepPs X.K X.mg F ps vs → VV vs us → keyed ps = some kvs →
    ∃ (ws : List (List Key × V)) (xs : List (List Key × Addr × Value)), CarriesH (tupleKind (mixKind X.prog X.w)) s.heap us xs ∧ RepT X.K X.mg F kvs ws ∧ KT H ws xs
  | [], vs, us, kvs, h, r, e => by
    rw [show vs = [] from h] at r
    cases r
    cases e
    exact ⟨[], [], trivial, .nil, .nil⟩
  | p :: ps, vs, us, kvs, ⟨x, y, t, ev, h1, h2, h3⟩, r, e => by
    subst ev
    cases r with
    | @cons _ up _ us' rp rr =>
      unfold keyed at e
      split at e
      · rename_i ks t' e1 e2
        cases e
        obtain ⟨ws, xs, c, rt, kt⟩ := keyed_stand I sm h3 rr e2
        obtain ⟨b, rfl, hb⟩ := dKeys_rep h1 e1
        obtain ⟨u1, u2⟩ := up
        obtain ⟨ra, rb⟩ := rp
        have ra : u1 = Value.ref b := ra
        subst ra
        exact ⟨(ks, y) :: ws, (ks, b, u2) :: xs, ⟨rfl, rfl, key_of I.hok (sm _ _ hb), c⟩, .cons h2 rt, .cons ⟨rfl, sm _ _ hb, rb⟩ kt⟩
      · cases e
def tDispT (K : PySem.W.Frag) (mg : Str → Option Value) (trs : List (TE × TE)) : TE := fun σ H Q => ∀ p, H p = none → tPairs trs σ (upd H p (.dT [])) fun vs H2 => H2 p = some (.dT []) ∧ ∃ F ps kvs, Same F H2 ∧ RepPs K mg F ps vs ∧ keyed ps = some kvs ∧ F p = none ∧ vs.length ≤ 15 ∧
  ∀ ws, RepT K mg F (mergeD [] kvs) ws → Q (.ref p) (upd H2 p (.dT ws))
theorem vv_len : ∀ {vs : List (V × V)} {us : List (Value × Value)}, VV vs us → vs.length = us.length := fun h => Paired.length h
theorem pe_dispT {trs : List (TE × TE)} (hu : X.A.units + 1 < cLine) (h : PPs X pos keys values trs) (hall : keys.all (·.isSome) = true) (hl : keys.length = values.length) (h0 : keys ≠ []) (h15 : keys.length ≤ 15) : PE X (.Dict keys values pos) (tDispT X.K X.mg trs) := by
  refine ⟨fun pins s σ H Q I q => ?_⟩
  have hn := I.hok.fresh (Nat.le_refl s.heap.objs.size)
  have I1 := I.laid (a := s.heap.objs.size) (o := .dT []) (h' := s.heap.push { cls := .type "dict", data := .dict #[] }) (t' := s.toks) (fun _ _ q => Heap.get?_push_of_some _ q) (Nat.le_refl _) (dt_empty s.heap I.big)
  have hlen := pairTrees_length keys values X.env pos hall hl
  have hne : pairTrees keys values X.env pos ≠ [] := fun he => by
    rw [he] at hlen
    exact h0 (List.length_eq_zero_iff.mp hlen.symm)
  rw [arm_eval_Dict, zip_pairTrees keys values X.env pos hall hl, dictDisplay_pairs _ hne (by omega)]
  refine wpAny_bind (wpAny_standAt (wpAny_bind (wpAny_subDictH (knd := tupleKind (mixKind X.prog X.w)) (show X.A.units < cLine by omega) (by omega) (thn (h.run pins _ σ _ _ I1 (q _ hn)) fun us s2 ⟨vs, H2, I2, rel, e, F, ps, kvs, sm, rp, ek, fp, lk, q2⟩ => ?_))))
  obtain ⟨ws, xs, c, rt, kt⟩ := keyed_stand I2 sm rp rel ek
  obtain ⟨z, hd, xs0, r0, dd⟩ := dt_of I2.hok e
  cases r0
  refine ⟨xs, c, dd, fun h' tk dd' hs => wpAny_pure ⟨.ref s.heap.objs.size, _, ?_, rfl, q2 _ (rept_merge rt .nil)⟩⟩
  have km : KT H2 (ws.foldl (fun acc kv => putK acc kv.1 kv.2) []) (storedAllH [] xs) := KT.mergeH kt .nil
  obtain ⟨o', es, ep, g1, g2, g3, g4, _, g5⟩ := dd'
  have hz : (ws.foldl (fun acc kv => putK acc kv.1 kv.2) []).length ≤ sizeLine := by
    rw [Paired.length km]
    refine Nat.le_trans (storedAllH_length xs []) ?_
    have h1 := c.length
    have h2 := vv_len rel
    simp only [List.length_nil]
    have : (15 : Nat) ≤ sizeLine := by decide
    omega
  refine d_write (t' := tk) I2 (by rw [e]; exact True.intro) hs ⟨o', g1⟩ ⟨hz, hd, _, km.keeps fun b ys eb => ?_, o', es, ep, g1, g2, g3, g4, g5⟩
  rw [upd_ne (ne_of eb e (fun z => nomatch z))]
  exact eb
theorem keyed_len : ∀ {ps : List (D × D)} {vs : List (V × V)} {K : PySem.W.Frag} {mg : Str → Option Value} {F : Hp}, RepPs K mg F ps vs → vs.length = ps.length
  | [], vs, _, _, _, h => by rw [show vs = [] from h]; rfl
  | p :: ps, vs, _, _, _, ⟨x, y, r, e, _, _, t⟩ => by subst e; simp [keyed_len t]
theorem pairsM_len : ∀ {fs : List ((DS → Res D) × (DS → Res D))} {s s' : DS} {ps : List (D × D)}, pairsM fs s = .ok ps s' → ps.length = fs.length
  | [], s, s', ps, e => by cases e; rfl
  | (f, g) :: fs, s, s', ps, e => by
    unfold pairsM at e
    cases e1 : f s with
    | ok k s1 =>
      rw [e1, Res.bind_ok] at e
      cases e2 : g s1 with
      | ok v s2 =>
        rw [e2, Res.bind_ok] at e
        cases e3 : pairsM fs s2 with
        | ok r s3 => rw [e3] at e; cases e; simp [pairsM_len e3]
        | ex x s => rw [e3] at e; cases e
        | bad => rw [e3] at e; cases e
      | ex x s => rw [e2] at e; cases e
      | bad => rw [e2] at e; cases e
    | ex x s => rw [e1] at e; cases e
    | bad => rw [e1] at e; cases e
theorem dn_dispT {k : Nat} {fs : List ((DS → Res D) × (DS → Res D))} (C : Ctx k X W) (h : DPs X W pos keys values fs) (hf : fs.length ≤ 15 := by decide) (hall : keys.all (·.isSome) = true := by rfl) (hl : keys.length = values.length := by rfl) (h0 : keys ≠ [] := by exact List.cons_ne_nil _ _) (h15 : keys.length ≤ 15 := by exact (by decide)) : DN X W (.Dict keys values pos) (nDispT fs) := by
  refine PE.imp (pe_dispT (hu_of C.room) h hall hl h0 h15) fun σ H Q ⟨B, F, s, r, p⟩ pn hp => ?_
  obtain ⟨r1, hd⟩ := r.newH (o := .dT []) hp (fun _ z => by cases z)
  have rh := r1.hide hd
  refine pairs_read (W := W) rh ?_
  unfold nDispT at p
  revert p
  cases em : pairsM fs s with
  | bad => exact fun p => p
  | ex x s' =>
    intro p cls dd F' H' r' sm ex
    obtain ⟨rb, _⟩ := r1.unhide hd r'
    exact p cls dd F' H' rb sm ex
  | ok ps s' =>
    intro p vs F' H' r' sm q
    obtain ⟨rb, hid⟩ := r1.unhide hd r'
    rw [Res.bind_ok] at p
    cases ek : keyed ps with
    | none => rw [ek] at p; exact p.elim
    | some kvs =>
      rw [ek] at p
      refine ⟨hid.h, F', ps, kvs, rb.sub, q, ek, hid.f, by rw [keyed_len q, pairsM_len em]; exact hf, fun ws rt => ?_⟩
      obtain ⟨rc, hc⟩ := rb.writeH (o' := .dT ws) hid (fun _ z => by cases z)
      exact p pn _ F' _ rc sm hc.f hc.h ⟨ws, rfl, rt⟩ hc.h0 hc.no
end
/-- a block's parts, the room told -/
theorem Blk.mkC {X : Cx} {W : WX} {k : Nat} {tg elt : Expr} {ifs : List Expr} {scope : Scope} {own : List (Str × Nat)} {gi : List Nat} {g : D → DS → Option DS} {t : DS → Res Bool} {el : DS → Res D} (C : Ctx k X W) (ok : BlkOk X.N X.env.scope scope own) (gin : ∀ j ∈ gi, j ∈ own.map (·.2))
    (hg : ∀ (s : Shared) (H : Hp) (Cb : Addr) (cl : List (Str × Addr)) (fp : List Addr), Ctx k (X.blk s H scope (compEnvC scope cl Cb X.env) fp) WF → DG (X.blk s H scope (compEnvC scope cl Cb X.env) fp) tg gi g)
    (ht : ∀ (s : Shared) (H : Hp) (Cb : Addr) (cl : List (Str × Addr)) (fp : List Addr), Ctx k (X.blk s H scope (compEnvC scope cl Cb X.env) fp) WF → DTs (X.blk s H scope (compEnvC scope cl Cb X.env) fp) WF ifs t)
    (he : ∀ (s : Shared) (H : Hp) (Cb : Addr) (cl : List (Str × Addr)) (fp : List Addr), Ctx k (X.blk s H scope (compEnvC scope cl Cb X.env) fp) WF → DE (X.blk s H scope (compEnvC scope cl Cb X.env) fp) WF elt el) : Blk X tg elt ifs scope own gi g t el :=
  ⟨ok, gin, fun s H Cb cl fp => hg s H Cb cl fp (C.blk s H scope _ fp), fun s H Cb cl fp => ht s H Cb cl fp (C.blk s H scope _ fp), fun s H Cb cl fp => he s H Cb cl fp (C.blk s H scope _ fp)⟩
end DL

set_option autoImplicit true
/-! D-layer, part v: the end; mirrors reckoned. -/
namespace DL
open PySem PySem.Spec PyProof.Rows L2
set_option autoImplicit false
theorem law_end {K : PySem.W.Frag} {mg : Str → Option Value} {m : DS → Res D} {ns : List Int} {a : Addr} {H : Hp} (h : ∃ outs, m [.sh (.scr ns)] = .ok (.bl true) outs) (hS : SqL K H a (ns.map V.int)) : spD K mg 1 m [.ref a] H (fun v _ => v = .bl true) fun _ _ _ => False := by
  obtain ⟨outs, h⟩ := h
  refine ⟨H, [.sh (.scr ns)], rfl, Same.refl H, ⟨rfl, fun i s e => ?_, fun i s e => ?_, fun i j x y p _ e => ?_⟩, ?_⟩
  · cases i with
    | zero => simp at e; subst e; exact ⟨_, rfl, show Rep K mg H (.scr ns) _ by unfold Rep; exact ⟨a, rfl, hS⟩⟩
    | succ i => simp at e
  · cases i with
    | zero => simp at e; subst e; exact .inl ⟨_, rfl⟩
    | succ i => simp at e
  · cases i with
    | zero => simp at e
    | succ i => simp at e
  · rw [h]
    exact fun v F' H' c q => Rep.bl_ q
/-- what a call lets out, the world left open -/
def CXw (P : Program) : CXT := fun outer H s E u s' => ∃ w, L2.CX P w outer H s E u s'
theorem fnok_w {P : Program} {w : World} {K : PySem.W.Frag} {mg : Str → Option Value} {base : Heap} {k : Nat} {f : Addr} {fd : FuncData} {ps : List Str} {sp : Sp} (F : FnOk P w K mg base (L2.CX P w) k f fd ps sp) : FnOk P w K mg base (CXw P) k f fd ps sp :=
  ⟨F.len, fun A outer s H args us vs Q E hr he hb hv hs => codeAny_mono (F.run A outer s H args us vs Q E hr he hb hv hs) fun r s' q => by
    cases r with
    | error e => exact ⟨w, q⟩
    | ok fl =>
      cases fl with
      | ret u => exact q
      | _ => exact q⟩
end DL

set_option autoImplicit true
/-! D-layer, part w: the mirrors, applied. -/
namespace DL
open PySem PySem.Spec PyProof.Rows L2
set_option autoImplicit false
@[simp] theorem eVar_ap (i : Nat) (s : DS) : eVar i s = match s[i]? with
  | some (.sh d) => .ok d s
  | some (.ow false x) => .ok x.d (s.set i (.sh x.d))
  | _ => .bad := rfl
@[simp] theorem eC_ap (d : D) (s : DS) : eC d s = .ok d s := rfl
@[simp] theorem aVar_ap (i : Nat) (s : DS) : aVar i s = match s[i]? with
  | some (.sh _) => .ok (.s i) s
  | some (.ow _ _) => .ok (.s i) s
  | _ => .bad := rfl
@[simp] theorem aOf_ap (f : DS → Res D) (s : DS) : aOf f s = (f s).bind fun d s => .ok (.v d) s := rfl
@[simp] theorem asNil_ap  (s : DS) : asNil  s = .ok [] s := rfl
@[simp] theorem asCons_ap (f : DS → Res Ar) (g : DS → Res (List Ar)) (s : DS) : asCons f g s = (f s).bind fun a s => (g s).bind fun as s => .ok (a :: as) s := rfl
@[simp] theorem eOwn_ap (f : DS → Res Own) (s : DS) : eOwn f s = (f s).bind fun x s => .ok x.d s := rfl
@[simp] theorem eCall_ap (fn : List D → Option D) (g : DS → Res (List Ar)) (s : DS) : eCall fn g s = (g s).bind fun as s => match (Ar.ds s as).bind fn with
  | some d => .ok d s
  | none => .bad := rfl
@[simp] theorem nCall_ap (fn : List D → Option Own) (g : DS → Res (List Ar)) (s : DS) : nCall fn g s = (g s).bind fun as s => match (Ar.ds s as).bind fn with
  | some d => .ok d s
  | none => .bad := rfl
@[simp] theorem eOp1_ap (fn : D → Option D) (f : DS → Res Ar) (s : DS) : eOp1 fn f s = (f s).bind fun a s => match (a.d s).bind fn with
  | some d => .ok d s
  | none => .bad := rfl
@[simp] theorem eOp2_ap (fn : D → D → Option D) (f g : DS → Res Ar) (s : DS) : eOp2 fn f g s = (f s).bind fun a s => (g s).bind fun b s => match bind2 (a.d s) (b.d s) fn with
  | some d => .ok d s
  | none => .bad := rfl
@[simp] theorem nOp2_ap (fn : D → D → Option Own) (f g : DS → Res Ar) (s : DS) : nOp2 fn f g s = (f s).bind fun a s => (g s).bind fun b s => match bind2 (a.d s) (b.d s) fn with
  | some d => .ok d s
  | none => .bad := rfl
@[simp] theorem tB_ap (f : DS → Res D) (s : DS) : tB f s = (f s).bind fun d s => match d with
  | .bl b => .ok b s
  | _ => .bad := rfl
@[simp] theorem tAndD_ap (f g : DS → Res Bool) (s : DS) : tAndD f g s = (f s).bind fun b s => match b with
  | true => g s
  | false => .ok false s := rfl
@[simp] theorem tOrD_ap (f g : DS → Res Bool) (s : DS) : tOrD f g s = (f s).bind fun b s => match b with
  | true => .ok true s
  | false => g s := rfl
@[simp] theorem tNotD_ap (f : DS → Res Bool) (s : DS) : tNotD f s = (f s).bind fun b s => .ok (!b) s := rfl
@[simp] theorem eAnd_ap (f g : DS → Res D) (s : DS) : eAnd f g s = (f s).bind fun d s => match d with
  | .bl true => g s
  | .bl false => .ok (.bl false) s
  | _ => .bad := rfl
@[simp] theorem eOr_ap (f g : DS → Res D) (s : DS) : eOr f g s = (f s).bind fun d s => match d with
  | .bl true => .ok (.bl true) s
  | .bl false => g s
  | _ => .bad := rfl
@[simp] theorem eNot_ap (f : DS → Res D) (s : DS) : eNot f s = (f s).bind fun d s => match d with
  | .bl b => .ok (.bl (!b)) s
  | _ => .bad := rfl
@[simp] theorem sNil_ap  (s : DS) : sNil  s = .ok .nx s := rfl
@[simp] theorem sSeq_ap (f g : DS → Res Fl) (s : DS) : sSeq f g s = (f s).bind fun fl s => match fl with
  | .nx => g s
  | fl => .ok fl s := rfl
@[simp] theorem sSet_ap (i : Nat) (f : DS → Res D) (s : DS) : sSet i f s = (f s).bind fun d s => match setSh i d s with
  | some s => .ok .nx s
  | none => .bad := rfl
@[simp] theorem sSetO_ap (i : Nat) (f : DS → Res Own) (s : DS) : sSetO i f s = (f s).bind fun x s => match setOw i x s with
  | some s => .ok .nx s
  | none => .bad := rfl
@[simp] theorem sRet_ap (f : DS → Res D) (s : DS) : sRet f s = (f s).bind fun d s => .ok (.rt d) s := rfl
@[simp] theorem sRetN_ap  (s : DS) : sRetN  s = .ok (.rt .non) s := rfl
@[simp] theorem sIf_ap (c : DS → Res Bool) (f g : DS → Res Fl) (s : DS) : sIf c f g s = (c s).bind fun b s => match b with
  | true => f s
  | false => g s := rfl
@[simp] theorem sDrop_ap (f : DS → Res D) (s : DS) : sDrop f s = (f s).bind fun _ s => .ok .nx s := rfl
@[simp] theorem sBreak_ap  (s : DS) : sBreak  s = .ok .bk s := rfl
@[simp] theorem sCont_ap  (s : DS) : sCont  s = .ok .ct s := rfl
@[simp] theorem gNm_ap (i : Nat) (d : D) (s : DS) : gNm i d s = setSh i d s := rfl
@[simp] theorem sAsg_ap (g : D → DS → Option DS) (f : DS → Res D) (s : DS) : sAsg g f s = (f s).bind fun d s => match g d s with
  | some s => .ok .nx s
  | none => .bad := rfl
@[simp] theorem sPar_ap (i j : Nat) (f : DS → Res (List Ar)) (s : DS) : sPar i j f s = (f s).bind fun as s => match as with
  | [.v d, .v e] => match (setSh i d s).bind (setSh j e) with
    | some s => .ok .nx s
    | none => .bad
  | _ => .bad := rfl
@[simp] theorem sFor_ap (f : DS → Res (List D)) (g : D → DS → Option DS) (body : DS → Res Fl) (s : DS) : sFor f g body s = (f s).bind fun items s => forM g body items s := rfl
@[simp] theorem walkS_ap {α : Type} (i : Nat) (run : List D → DS → Res α) (s : DS) : walkS i run s = match s[i]? with
  | some (.sh (.lst l)) => run l s
  | some (.sh (.tup l)) => run l s
  | some (.sh (.str x)) => run (signs x) s
  | some (.sh (.dT kvs)) => (run (kvs.map fun p => .tup (p.1.map kD)) s).noex
  | some (.sh (.dK kvs)) => (run (kvs.map fun p => kD p.1) s).noex
  | some (.ow io (.l l)) => (run l (s.set i .lk)).back i (.ow io (.l l))
  | some (.ow io (.T kvs)) => ((run (kvs.map fun p => .tup (p.1.map kD)) (s.set i .lk)).back i (.ow io (.T kvs))).noex
  | some (.ow io (.K kvs)) => ((run (kvs.map fun p => kD p.1) (s.set i .lk)).back i (.ow io (.K kvs))).noex
  | _ => .bad := rfl
@[simp] theorem sForS_ap (i : Nat) (g : D → DS → Option DS) (b : DS → Res Fl) (s : DS) : sForS i g b s = walkS i (forM g b) s := rfl
@[simp] theorem nLc_ap (f : DS → Res (List D)) (vs : List Nat) (g : D → DS → Option DS) (t : DS → Res Bool) (e : DS → Res D) (s : DS) : nLc f vs g t e s = (f s).bind fun items s => lcRun vs g t e items s := rfl
@[simp] theorem tYesD_ap  (s : DS) : tYesD  s = .ok true s := rfl
@[simp] theorem eFn_ap (m : DS → Res D) (f : DS → Res (List Ar)) (s : DS) : eFn m f s = (f s).bind fun as s => callM m as s := rfl
@[simp] theorem eMeth_ap (c mn : Str) (m : DS → Res D) (f : DS → Res Ar) (g : DS → Res (List Ar)) (s : DS) : eMeth c mn m f g s = (f s).bind fun a s => match a.d s with
  | some (.obj c' fs) => if c' = c ∧ fs.lookup mn = none then (g s).bind fun as s => callM m (a :: as) s else .bad
  | _ => .bad := rfl
@[simp] theorem oNone_ap  (s : DS) : oNone  s = .ok none s := rfl
@[simp] theorem oSome_ap (f : DS → Res D) (s : DS) : oSome f s = (f s).bind fun d s => match d with
  | .int i => .ok (some i) s
  | _ => .bad := rfl
@[simp] theorem eSl_ap (f : DS → Res Ar) (l h : DS → Res (Option Int)) (s : DS) : eSl f l h s = (f s).bind fun a s => (l s).bind fun lo s => (h s).bind fun hi s => match (a.d s).bind fun x => sliceD x lo hi with
  | some d => .ok d s
  | none => .bad := rfl
@[simp] theorem eTup_ap (g : DS → Res (List Ar)) (s : DS) : eTup g s = (g s).bind fun as s => match allV as with
  | some ds => .ok (.tup ds) s
  | none => .bad := rfl
@[simp] theorem nLst_ap (g : DS → Res (List Ar)) (s : DS) : nLst g s = (g s).bind fun as s => match allV as with
  | some ds => .ok (.l ds) s
  | none => .bad := rfl
@[simp] theorem nEmptyT_ap  (s : DS) : nEmptyT  s = .ok (.T []) s := rfl
@[simp] theorem nEmptyK_ap  (s : DS) : nEmptyK  s = .ok (.K []) s := rfl
@[simp] theorem sChg_ap (i : Nat) (fn : Own → D → Option Own) (f : DS → Res D) (s : DS) : sChg i fn f s = (f s).bind fun d s => match s[i]? with
  | some (.ow io x) => match fn x d with
    | some x' => .ok .nx (s.set i (.ow io x'))
    | none => .bad
  | _ => .bad := rfl
@[simp] theorem sApp_ap (i : Nat) (f : DS → Res D) (s : DS) : sApp i f s = if isL s[i]? then sChg i appD f s else .bad := rfl
@[simp] theorem sPut_ap (i : Nat) (fk fv : DS → Res D) (s : DS) : sPut i fk fv s = (fv s).bind fun v s => if isLT s[i]? then (fk s).bind fun k s => match s[i]? with
  | some (.ow io x) => match putO x k v with
    | some x' => .ok .nx (s.set i (.ow io x'))
    | none => .bad
  | _ => .bad else .bad := rfl
@[simp] theorem sFldD_ap (i : Nat) (c f : Str) (g : DS → Res D) (s : DS) : sFldD i c f g s = sChg i (fldO c f) g s := rfl
@[simp] theorem eGet2_ap (fo fk fd : DS → Res Ar) (s : DS) : eGet2 fo fk fd s = (fo s).bind fun o s => if (o.d s).any isDc then (fk s).bind fun k s => (fd s).bind fun d s => match o.d s, k.d s, d with
  | some o, some k, .v d => match getM o k d with
    | some r => .ok r s
    | none => .bad
  | _, _, _ => .bad else .bad := rfl
@[simp] theorem eChain_ap (fn fn' : D → D → Option D) (fa fb fc : DS → Res Ar) (s : DS) : eChain fn fn' fa fb fc s = (fa s).bind fun a s => (fb s).bind fun b s => match bind2 (a.d s) (b.d s) fn with
  | some (.bl true) => (fc s).bind fun c s => match bind2 (b.d s) (c.d s) fn' with
    | some d => .ok d s
    | none => .bad
  | some (.bl false) => .ok (.bl false) s
  | _ => .bad := rfl
@[simp] theorem enumD_ap (f : DS → Res D) (s : DS) : enumD f s = (f s).bind fun d s => match isLT2 d with
  | some (_, l) => .ok (enumL 0 l) s
  | none => .bad := rfl
@[simp] theorem zipD_ap (f g : DS → Res D) (s : DS) : zipD f g s = (f s).bind fun d s => (g s).bind fun e s => match isLT2 d, isLT2 e with
  | some (_, l), some (_, m) => .ok (zipL l m) s
  | _, _ => .bad := rfl
@[simp] theorem rng1D_ap (f : DS → Res D) (s : DS) : rng1D f s = (f s).bind fun d s => match d with
  | .int j => if -(2 ^ 62) ≤ j ∧ j < 2 ^ 62 then .ok ((List.range j.toNat).map fun i => .int (0 + (i : Nat))) s else .bad
  | _ => .bad := rfl
@[simp] theorem rng2D_ap (f g : DS → Res D) (s : DS) : rng2D f g s = (f s).bind fun d s => (g s).bind fun e s => match d, e with
  | .int i, .int j => if -(2 ^ 62) ≤ i ∧ i < 2 ^ 62 ∧ -(2 ^ 62) ≤ j ∧ j < 2 ^ 62 then .ok ((List.range (j - i).toNat).map fun k => .int (i + (k : Nat))) s else .bad
  | _, _ => .bad := rfl
@[simp] theorem rngdD_ap (f g : DS → Res D) (h : DS → Res D) (s : DS) : rngdD f g h s = (f s).bind fun d s => (g s).bind fun e s => (h s).bind fun c s => match d, e, c with
  | .int i, .int j, .int c => if c = -1 ∧ -(2 ^ 62) ≤ i ∧ i < 2 ^ 62 ∧ -(2 ^ 62) ≤ j ∧ j < 2 ^ 62 then .ok ((List.range (i - j).toNat).map fun k => .int (i + (k : Nat) * -1)) s else .bad
  | _, _, _ => .bad := rfl
@[simp] theorem valsD_ap (f : DS → Res D) (s : DS) : valsD f s = (f s).bind fun d s => match d with
  | .lst l => .ok l s
  | .tup l => .ok l s
  | .str x => .ok (signs x) s
  | _ => .bad := rfl
@[simp] theorem eIsi_ap (fn : D → Option Bool) (f : DS → Res Ar) (s : DS) : eIsi fn f s = (f s).bind fun a s => match (a.d s).bind fn with
  | some b => .ok (.bl b) s
  | none => .bad := rfl
@[simp] theorem eFnK_ap (m : DS → Res D) (idx : List Nat) (f g : DS → Res (List Ar)) (s : DS) : eFnK m idx f g s = (f s).bind fun as s => (g s).bind fun bs s => callM m (pick idx (.v .non) (as ++ bs)) s := rfl
@[simp] theorem eMethK_ap (c mn : Str) (m : DS → Res D) (idx : List Nat) (fo : DS → Res Ar) (g : DS → Res (List Ar)) (s : DS) : eMethK c mn m idx fo g s = (fo s).bind fun a s => match a.d s with
  | some (.obj c' fs) => if c' = c ∧ fs.lookup mn = none then (g s).bind fun bs s => callM m (pick idx (.v .non) (a :: bs)) s else .bad
  | _ => .bad := rfl
@[simp] theorem eqO_ap (c : Str) (m : DS → Res D) (f g : DS → Res Ar) (s : DS) : eqO c m f g s = (f s).bind fun a s => (g s).bind fun b s => match a.d s, b.d s with
  | some (.obj c1 fs), some (.obj c2 gs) => if c1 = c ∧ c2 = c then (match callM m [a, b] s with
    | .ok (.bl r) s => .ok (.bl r) s
    | _ => .bad) else .bad
  | _, _ => .bad := rfl
@[simp] theorem nDispT_ap (fs : List ((DS → Res D) × (DS → Res D))) (s : DS) : nDispT fs s = (pairsM fs s).bind fun ps s => match keyed ps with
  | some kvs => .ok (.T (mergeD [] kvs)) s
  | none => .bad := rfl
@[simp] theorem Ar.d_sq : type_of% @DL.Ar.d.eq_def := @DL.Ar.d.eq_def
@[simp] theorem Ar.ds_s1 : type_of% @DL.Ar.ds.eq_1 := @DL.Ar.ds.eq_1
@[simp] theorem Ar.ds_s2 : type_of% @DL.Ar.ds.eq_2 := @DL.Ar.ds.eq_2
@[simp] theorem bind2_sq : type_of% @DL.bind2.eq_def := @DL.bind2.eq_def
@[simp] theorem setSh_sq : type_of% @DL.setSh.eq_def := @DL.setSh.eq_def
@[simp] theorem setOw_sq : type_of% @DL.setOw.eq_def := @DL.setOw.eq_def
@[simp] theorem Slot.isOw_sq : type_of% @DL.Slot.isOw.eq_def := @DL.Slot.isOw.eq_def
@[simp] theorem argSlot_sq : type_of% @DL.argSlot.eq_def := @DL.argSlot.eq_def
@[simp] theorem argSlots_s1 : type_of% @DL.argSlots.eq_1 := @DL.argSlots.eq_1
@[simp] theorem argSlots_s2 : type_of% @DL.argSlots.eq_2 := @DL.argSlots.eq_2
@[simp] theorem ownOnce_s1 : type_of% @DL.ownOnce.eq_1 := @DL.ownOnce.eq_1
@[simp] theorem ownOnce_s2 : type_of% @DL.ownOnce.eq_2 := @DL.ownOnce.eq_2
@[simp] theorem ownOnce_s3 : type_of% @DL.ownOnce.eq_3 := @DL.ownOnce.eq_3
@[simp] theorem usesOw_sq : type_of% @DL.usesOw.eq_def := @DL.usesOw.eq_def
@[simp] theorem putOuts_s1 : type_of% @DL.putOuts.eq_1 := @DL.putOuts.eq_1
@[simp] theorem putOuts_s2 : type_of% @DL.putOuts.eq_2 := @DL.putOuts.eq_2
@[simp] theorem putOuts_s3 : type_of% @DL.putOuts.eq_3 := @DL.putOuts.eq_3
@[simp] theorem putOuts_s4 : type_of% @DL.putOuts.eq_4 := @DL.putOuts.eq_4
@[simp] theorem okOuts_s1 : type_of% @DL.okOuts.eq_1 := @DL.okOuts.eq_1
@[simp] theorem okOuts_s2 : type_of% @DL.okOuts.eq_2 := @DL.okOuts.eq_2
@[simp] theorem okOuts_s3 : type_of% @DL.okOuts.eq_3 := @DL.okOuts.eq_3
@[simp] theorem okOuts_s4 : type_of% @DL.okOuts.eq_4 := @DL.okOuts.eq_4
@[simp] theorem okOuts_s5 : type_of% @DL.okOuts.eq_5 := @DL.okOuts.eq_5
@[simp] theorem Own.d_sq : type_of% @DL.Own.d.eq_def := @DL.Own.d.eq_def
@[simp] theorem on1_sq : type_of% @DL.on1.eq_def := @DL.on1.eq_def
@[simp] theorem addD_sq : type_of% @DL.addD.eq_def := @DL.addD.eq_def
@[simp] theorem subD_sq : type_of% @DL.subD.eq_def := @DL.subD.eq_def
@[simp] theorem mulD_sq : type_of% @DL.mulD.eq_def := @DL.mulD.eq_def
@[simp] theorem divD_sq : type_of% @DL.divD.eq_def := @DL.divD.eq_def
@[simp] theorem modD_sq : type_of% @DL.modD.eq_def := @DL.modD.eq_def
@[simp] theorem powD_sq : type_of% @DL.powD.eq_def := @DL.powD.eq_def
@[simp] theorem negD_sq : type_of% @DL.negD.eq_def := @DL.negD.eq_def
@[simp] theorem cmpD_sq : type_of% @DL.cmpD.eq_def := @DL.cmpD.eq_def
@[simp] theorem intD_sq : type_of% @DL.intD.eq_def := @DL.intD.eq_def
@[simp] theorem lenD_sq : type_of% @DL.lenD.eq_def := @DL.lenD.eq_def
@[simp] theorem tupD_sq : type_of% @DL.tupD.eq_def := @DL.tupD.eq_def
@[simp] theorem lstN_sq : type_of% @DL.lstN.eq_def := @DL.lstN.eq_def
@[simp] theorem isLT2_sq : type_of% @DL.isLT2.eq_def := @DL.isLT2.eq_def
@[simp] theorem allV_s1 : type_of% @DL.allV.eq_1 := @DL.allV.eq_1
@[simp] theorem allV_s2 : type_of% @DL.allV.eq_2 := @DL.allV.eq_2
@[simp] theorem allV_s3 : type_of% @DL.allV.eq_3 := @DL.allV.eq_3
@[simp] theorem getD2_sq : type_of% @DL.getD2.eq_def := @DL.getD2.eq_def
@[simp] theorem getM_sq : type_of% @DL.getM.eq_def := @DL.getM.eq_def
@[simp] theorem isDc_sq : type_of% @DL.isDc.eq_def := @DL.isDc.eq_def
@[simp] theorem isLT_sq : type_of% @DL.isLT.eq_def := @DL.isLT.eq_def
@[simp] theorem isL_sq : type_of% @DL.isL.eq_def := @DL.isL.eq_def
@[simp] theorem putO_sq : type_of% @DL.putO.eq_def := @DL.putO.eq_def
@[simp] theorem appD_sq : type_of% @DL.appD.eq_def := @DL.appD.eq_def
@[simp] theorem fldO_sq : type_of% @DL.fldO.eq_def := @DL.fldO.eq_def
@[simp] theorem putFD_s1 : type_of% @DL.putFD.eq_1 := @DL.putFD.eq_1
@[simp] theorem putFD_s2 : type_of% @DL.putFD.eq_2 := @DL.putFD.eq_2
@[simp] theorem fldD_sq : type_of% @DL.fldD.eq_def := @DL.fldD.eq_def
@[simp] theorem ixD_sq : type_of% @DL.ixD.eq_def := @DL.ixD.eq_def
@[simp] theorem revD_sq : type_of% @DL.revD.eq_def := @DL.revD.eq_def
@[simp] theorem gTs_s1 : type_of% @DL.gTs.eq_1 := @DL.gTs.eq_1
@[simp] theorem gTs_s2 : type_of% @DL.gTs.eq_2 := @DL.gTs.eq_2
@[simp] theorem gTs_s3 : type_of% @DL.gTs.eq_3 := @DL.gTs.eq_3
@[simp] theorem gTp_sq : type_of% @DL.gTp.eq_def := @DL.gTp.eq_def
@[simp] theorem gLs_sq : type_of% @DL.gLs.eq_def := @DL.gLs.eq_def
@[simp] theorem kD_sq : type_of% @DL.kD.eq_def := @DL.kD.eq_def
@[simp] theorem keyD_sq : type_of% @DL.keyD.eq_def := @DL.keyD.eq_def
@[simp] theorem keyed_s1 : type_of% @DL.keyed.eq_1 := @DL.keyed.eq_1
@[simp] theorem keyed_s2 : type_of% @DL.keyed.eq_2 := @DL.keyed.eq_2
@[simp] theorem pairsM_s1 : type_of% @DL.pairsM.eq_1 := @DL.pairsM.eq_1
@[simp] theorem pairsM_s2 : type_of% @DL.pairsM.eq_2 := @DL.pairsM.eq_2
@[simp] theorem tyN_sq : type_of% @DL.tyN.eq_def := @DL.tyN.eq_def
@[simp] theorem isiT_sq : type_of% @DL.isiT.eq_def := @DL.isiT.eq_def
@[simp] theorem isiC_sq : type_of% @DL.isiC.eq_def := @DL.isiC.eq_def
@[simp] theorem isiT2_sq : type_of% @DL.isiT2.eq_def := @DL.isiT2.eq_def
@[simp] theorem eqE_sq : type_of% @DL.eqE.eq_def := @DL.eqE.eq_def
@[simp] theorem okOwn_sq : type_of% @DL.okOwn.eq_def := @DL.okOwn.eq_def
@[simp] theorem wipeD_s1 : type_of% @DL.wipeD.eq_1 := @DL.wipeD.eq_1
@[simp] theorem wipeD_s2 : type_of% @DL.wipeD.eq_2 := @DL.wipeD.eq_2
@[simp] theorem restD_s1 : type_of% @DL.restD.eq_1 := @DL.restD.eq_1
@[simp] theorem restD_s2 : type_of% @DL.restD.eq_2 := @DL.restD.eq_2
@[simp] theorem sumD_sq : type_of% @DL.sumD.eq_def := @DL.sumD.eq_def
@[simp] theorem extD_sq : type_of% @DL.extD.eq_def := @DL.extD.eq_def
@[simp] theorem allD_sq : type_of% @DL.allD.eq_def := @DL.allD.eq_def
@[simp] theorem anyD_sq : type_of% @DL.anyD.eq_def := @DL.anyD.eq_def
@[simp] theorem intsD_s1 : type_of% @DL.intsD.eq_1 := @DL.intsD.eq_1
@[simp] theorem intsD_s2 : type_of% @DL.intsD.eq_2 := @DL.intsD.eq_2
@[simp] theorem intsD_s3 : type_of% @DL.intsD.eq_3 := @DL.intsD.eq_3
@[simp] theorem blsD_s1 : type_of% @DL.blsD.eq_1 := @DL.blsD.eq_1
@[simp] theorem blsD_s2 : type_of% @DL.blsD.eq_2 := @DL.blsD.eq_2
@[simp] theorem blsD_s3 : type_of% @DL.blsD.eq_3 := @DL.blsD.eq_3
@[simp] theorem bestI_s1 : type_of% @DL.bestI.eq_1 := @DL.bestI.eq_1
@[simp] theorem bestI_s2 : type_of% @DL.bestI.eq_2 := @DL.bestI.eq_2
@[simp] theorem bestI_s3 : type_of% @DL.bestI.eq_3 := @DL.bestI.eq_3
@[simp] theorem Res.back_sq : type_of% @DL.Res.back.eq_def := @DL.Res.back.eq_def
@[simp] theorem Res.noex_sq : type_of% @DL.Res.noex.eq_def := @DL.Res.noex.eq_def
@[simp] theorem zipL_s1 : type_of% @DL.zipL.eq_1 := @DL.zipL.eq_1
@[simp] theorem zipL_s2 : type_of% @DL.zipL.eq_2 := @DL.zipL.eq_2
@[simp] theorem enumL_s1 : type_of% @DL.enumL.eq_1 := @DL.enumL.eq_1
@[simp] theorem enumL_s2 : type_of% @DL.enumL.eq_2 := @DL.enumL.eq_2
@[simp] theorem pairsT_s1 : type_of% @DL.pairsT.eq_1 := @DL.pairsT.eq_1
@[simp] theorem pairsT_s2 : type_of% @DL.pairsT.eq_2 := @DL.pairsT.eq_2
@[simp] theorem pairsT_s3 : type_of% @DL.pairsT.eq_3 := @DL.pairsT.eq_3
@[simp] theorem dictT_sq : type_of% @DL.dictT.eq_def := @DL.dictT.eq_def
@[simp] theorem sortD_sq : type_of% @DL.sortD.eq_def := @DL.sortD.eq_def
@[simp] theorem signs_sq : type_of% @DL.signs.eq_def := @DL.signs.eq_def
@[simp] theorem toPy_s1 : type_of% @DL.toPy.eq_1 := @DL.toPy.eq_1
@[simp] theorem toPy_s2 : type_of% @DL.toPy.eq_2 := @DL.toPy.eq_2
@[simp] theorem toPy_s3 : type_of% @DL.toPy.eq_3 := @DL.toPy.eq_3
@[simp] theorem toPy_s4 : type_of% @DL.toPy.eq_4 := @DL.toPy.eq_4
@[simp] theorem toPy_s5 : type_of% @DL.toPy.eq_5 := @DL.toPy.eq_5
@[simp] theorem toPy_s6 : type_of% @DL.toPy.eq_6 := @DL.toPy.eq_6
@[simp] theorem toPy_s7 : type_of% @DL.toPy.eq_7 := @DL.toPy.eq_7
@[simp] theorem toPys_s1 : type_of% @DL.toPys.eq_1 := @DL.toPys.eq_1
@[simp] theorem toPys_s2 : type_of% @DL.toPys.eq_2 := @DL.toPys.eq_2
@[simp] theorem pick_sq : type_of% @DL.pick.eq_def := @DL.pick.eq_def
@[simp] theorem pin_no : Slot.pin .no = false := rfl
@[simp] theorem pin_sh (d : D) : Slot.pin (.sh d) = false := rfl
@[simp] theorem pin_ow (b : Bool) (x : Own) : Slot.pin (.ow b x) = b := rfl
@[simp] theorem pin_lk : Slot.pin .lk = true := rfl
/-- a call with shared data alone -/
theorem callM_sh {m : DS → Res D} {as : List Ar} {s : DS} {ss : DS} {v : D} {outs : DS} (hs : argSlots s as = some ss) (ho : ownOnce s as = true) (hm : m ss = .ok v outs) {s' : DS} (hp : putOuts s as outs = some s') : callM m as s = .ok v s' := by
  simp only [callM, hs, ho, hm, hp, if_true]
theorem fnM_eq {n : Nat} {g : DS → Res Fl} {ss s : DS} {d : D} (h : g (ss ++ List.replicate (n - ss.length) .no) = .ok (.rt d) s) (ok : okOuts ss s = true) : fnM n g ss = .ok d s := by
  simp only [fnM, h, ok, if_true]
theorem fnM_nx {n : Nat} {g : DS → Res Fl} {ss s : DS} (h : g (ss ++ List.replicate (n - ss.length) .no) = .ok .nx s) (ok : okOuts ss s = true) : fnM n g ss = .ok .non s := by
  simp only [fnM, h, ok, if_true]
end DL

set_option autoImplicit true
/-! D-layer, part x: freezing ahead of a statement; what a run leaves; loops. -/
namespace DL
open PySem PySem.Spec PyProof.Rows L2
set_option autoImplicit false
/-- slot i shared first, if it is our own -/
def frz (i : Nat) (f : DS → Res Fl) : DS → Res Fl := fun s => match s[i]? with
  | some (.ow false x) => f (s.set i (.sh x.d))
  | _ => f s
theorem ds_frz {X : Cx} {W : WX} {st : Stmt} {f : DS → Res Fl} (i : Nat) (h : DSt X W st f) : DSt X W st (frz i f) := by
  refine PS.imp h fun E σ H ⟨B, F, ds, r, p⟩ => ?_
  unfold frz at p
  split at p
  · rename_i x e
    obtain ⟨pa, o, e2, hf, r2, q⟩ := r.freeze e
    exact ⟨B, _, _, r2, p.mono (fun fl s h => FlPost.mono (same_upd hf) h) fun x s h σ => (h σ).mono (same_upd hf)⟩
  · exact ⟨B, F, ds, r, p⟩
@[simp] theorem frz_ap (i : Nat) (f : DS → Res Fl) (s : DS) : frz i f s = match s[i]? with
  | some (.ow false x) => f (s.set i (.sh x.d))
  | _ => f s := rfl
/-! ### what a run leaves where it was handed owned things -/
def leftD : DS → DS → DS
  | [], _ => []
  | .ow true _ :: ss, o :: os => o :: leftD ss os
  | _ :: ss, _ :: os => .no :: leftD ss os
  | _ :: ss, [] => .no :: leftD ss []
def runD (m : DS → Res D) (ss : DS) : Res D := match m ss with
  | .ok d outs => if ss.length ≤ outs.length then .ok d (leftD ss outs) else .bad
  | .ex x outs => if ss.length ≤ outs.length then .ex x (leftD ss outs) else .bad
  | .bad => .bad
theorem leftD_len : ∀ (ss outs : DS), (leftD ss outs).length = ss.length
  | [], _ => rfl
  | x :: ss, [] => by
    cases x with
    | ow io y => cases io <;> simp [leftD, leftD_len ss []]
    | _ => simp [leftD, leftD_len ss []]
  | x :: ss, o :: os => by
    cases x with
    | ow io y => cases io <;> simp [leftD, leftD_len ss os]
    | _ => simp [leftD, leftD_len ss os]
theorem putOuts_cut : ∀ (as : List Ar) (ss outs s0 s : DS), argSlots s0 as = some ss → (∀ i : Nat, (∃ io x, s[i]? = some (.ow io x)) → ∃ io x, s0[i]? = some (.ow io x)) → ss.length ≤ outs.length → putOuts s as outs = putOuts s as (leftD ss outs)
  | [], ss, outs, s0, s, e, hi, hl => by simp [putOuts]
  | a :: as, ss, outs, s0, s, e, hi, hl => by
    unfold argSlots at e
    split at e
    · rename_i y ys ey eys
      cases e
      cases outs with
      | nil => simp at hl
      | cons o os =>
        have hl2 : ys.length ≤ os.length := by simpa using hl
        have key : ∀ z, leftD (y :: ys) (o :: os) = z :: leftD ys os → (∀ (j : Nat) (x : Own), y = .ow true x → z = o) → putOuts s (a :: as) (o :: os) = putOuts s (a :: as) (leftD (y :: ys) (o :: os)) := by
          intro z hz hz2
          rw [hz]
          cases a with
          | v d => simp only [putOuts]; exact putOuts_cut as ys os s0 s eys hi hl2
          | s i =>
            unfold putOuts
            split
            · rename_i io x ei
              obtain ⟨io0, x0, e0⟩ := hi i ⟨_, _, ei⟩
              have : y = .ow true x0 := by
                unfold argSlot at ey
                try dsimp only at ey
                rw [e0] at ey
                cases ey; rfl
              rw [hz2 0 x0 this]
              split
              · rename_i x'
                refine putOuts_cut as ys os s0 _ eys (fun j hj => ?_) hl2
                obtain ⟨io3, x3, e3⟩ := hj
                rcases set_key e3 with ⟨rfl, _, _⟩ | ⟨_, e4⟩
                · exact ⟨_, _, e0⟩
                · exact hi j ⟨_, _, e4⟩
              · rfl
            · exact putOuts_cut as ys os s0 s eys hi hl2
        cases y with
        | ow io x =>
          cases io with
          | true => exact key o (by simp [leftD]) fun _ _ _ => rfl
          | false => exact key .no (by simp [leftD]) fun _ _ h => by cases h
        | _ => exact key .no (by simp [leftD]) fun _ _ h => by cases h
    · cases e
theorem putOuts_short : ∀ (as : List Ar) (outs s : DS), outs.length < as.length → putOuts s as outs = none
  | [], outs, s, h => by simp at h
  | a :: as, [], s, h => by cases a <;> rfl
  | a :: as, o :: os, s, h => by
    have h2 : os.length < as.length := by simpa using h
    cases a with
    | v d => unfold putOuts; exact putOuts_short as os s h2
    | s i =>
      unfold putOuts
      split
      · split
        · exact putOuts_short as os _ h2
        · rfl
      · exact putOuts_short as os s h2
@[simp] theorem callM_run (m : DS → Res D) (as : List Ar) (s : DS) : callM m as s = match argSlots s as with
  | none => .bad
  | some ss => if ownOnce s as then (match runD m ss with
    | .ok d outs => match putOuts s as outs with
      | some s' => .ok d s'
      | none => .bad
    | .ex x outs => match putOuts s as outs with
      | some s' => .ex x s'
      | none => .bad
    | .bad => .bad) else .bad := by
  unfold callM
  cases e : argSlots s as with
  | none => rfl
  | some ss =>
    dsimp only
    split
    · unfold runD
      cases em : m ss with
      | bad => rfl
      | ok d outs =>
        dsimp only
        by_cases hl : ss.length ≤ outs.length
        · rw [if_pos hl]
          dsimp only
          rw [← putOuts_cut as ss outs s s e (fun _ h => h) hl]
          all_goals (cases putOuts s as outs <;> rfl)
        · rw [if_neg hl, putOuts_short as outs s (by rw [← argSlots_len e]; omega)]
      | ex d outs =>
        dsimp only
        by_cases hl : ss.length ≤ outs.length
        · rw [if_pos hl]
          dsimp only
          rw [← putOuts_cut as ss outs s s e (fun _ h => h) hl]
          all_goals (cases putOuts s as outs <;> rfl)
        · rw [if_neg hl, putOuts_short as outs s (by rw [← argSlots_len e]; omega)]
    · rfl
@[simp] theorem nMake_ap (c : Str) (m : DS → Res D) (g : DS → Res (List Ar)) (s : DS) : nMake c m g s = (g s).bind fun as s => match argSlots s as with
  | none => .bad
  | some ss => if ownOnce s as then (match runD m (.ow true (.o c []) :: ss) with
    | .ok .non (.ow true x :: outs) => match putOuts s as outs with
      | some s' => .ok x s'
      | none => .bad
    | .ok _ _ => .bad
    | .ex x (_ :: outs) => match putOuts s as outs with
      | some s' => .ex x s'
      | none => .bad
    | .ex x [] => .bad
    | .bad => .bad) else .bad := by
  unfold nMake
  congr 1
  funext as s
  cases e : argSlots s as with
  | none => rfl
  | some ss =>
    dsimp only
    split
    · unfold runD
      cases em : m (.ow true (.o c []) :: ss) with
      | bad => rfl
      | ok d outs =>
        dsimp only
        by_cases hl : (Slot.ow true (.o c []) :: ss).length ≤ outs.length
        · rw [if_pos hl]
          cases outs with
          | nil => simp at hl
          | cons o outs =>
            have hl2 : ss.length ≤ outs.length := by simpa using hl
            have e2 : leftD (.ow true (.o c []) :: ss) (o :: outs) = o :: leftD ss outs := rfl
            rw [e2]
            have := putOuts_cut as ss outs s s e (fun _ h => h) hl2
            cases d <;> try rfl
            cases o with
            | ow io x =>
              cases io
              · rfl
              · dsimp only
                rw [← this]
                all_goals (cases putOuts s as outs <;> rfl)
            | _ => rfl
        · rw [if_neg hl]
          cases outs with
          | nil => cases d <;> rfl
          | cons o outs =>
            have : putOuts s as outs = none := putOuts_short as outs s (by rw [← argSlots_len e]; simp at hl; omega)
            cases d <;> try rfl
            cases o with
            | ow io x =>
              cases io
              · rfl
              · dsimp only
                rw [this]
            | _ => rfl
      | ex d outs =>
        dsimp only
        by_cases hl : (Slot.ow true (.o c []) :: ss).length ≤ outs.length
        · rw [if_pos hl]
          cases outs with
          | nil => simp at hl
          | cons o outs =>
            have hl2 : ss.length ≤ outs.length := by simpa using hl
            have e2 : leftD (.ow true (.o c []) :: ss) (o :: outs) = o :: leftD ss outs := rfl
            rw [e2]
            have := putOuts_cut as ss outs s s e (fun _ h => h) hl2
            dsimp only
            rw [← this]
            all_goals (cases putOuts s as outs <;> rfl)
        · rw [if_neg hl]
          cases outs with
          | nil => rfl
          | cons o outs =>
            have : putOuts s as outs = none := putOuts_short as outs s (by rw [← argSlots_len e]; simp at hl; omega)
            dsimp only
            rw [this]
    · rfl
/-! ### it runs well, and then -/
def Sat {α : Type} (r : Res α) (p : α → DS → Prop) : Prop := match r with
  | .ok a s => p a s
  | _ => False
@[simp] theorem sat_ok {α : Type} {a : α} {s : DS} {p : α → DS → Prop} : Sat (.ok a s) p = p a s := rfl
@[simp] theorem sat_bad {α : Type} {p : α → DS → Prop} : Sat .bad p = False := rfl
theorem sat_bind {α β : Type} {r : Res α} {k : α → DS → Res β} {p : β → DS → Prop} : Sat (r.bind k) p = Sat r fun a s => Sat (k a s) p := by
  cases r <;> rfl
theorem sat_back {α : Type} {r : Res α} {i : Nat} {x : Slot} {p : α → DS → Prop} : Sat (r.back i x) p = Sat r fun a s => p a (s.set i x) := by
  cases r <;> rfl
theorem sat_noex {α : Type} {r : Res α} {p : α → DS → Prop} : Sat r.noex p = Sat r p := by
  cases r <;> rfl
theorem bind_cg {α β : Type} {r r' : Res α} {k : α → DS → Res β} (h : r = r') : r.bind k = r'.bind k := by rw [h]
theorem sat_cg {α : Type} {r r' : Res α} {p : α → DS → Prop} (h : r = r') : Sat r p = Sat r' p := by rw [h]
theorem Sat.imp {α : Type} {r : Res α} {p q : α → DS → Prop} (h : Sat r p) (i : ∀ a s, p a s → q a s) : Sat r q := by
  cases r with
  | ok a s => exact i a s h
  | _ => exact h
theorem Sat.of {α : Type} {r : Res α} {p : α → DS → Prop} (h : Sat r p) : ∃ a s, r = .ok a s ∧ p a s := by
  cases r with
  | ok a s => exact ⟨a, s, rfl, h⟩
  | _ => exact h.elim
def retD : Fl → Option D
  | .nx => some .non
  | .rt d => some d
  | _ => none
theorem okOuts_len : ∀ {ss s : DS}, okOuts ss s = true → ss.length ≤ s.length
  | [], _, _ => by simp
  | x :: ss, [], h => by simp [okOuts] at h
  | x :: ss, y :: s, h => by
    simp only [okOuts, Bool.and_eq_true] at h
    simpa using okOuts_len h.2
/-- a def's run, from its body's -/
theorem runD_of {n : Nat} {g : DS → Res Fl} {ss os : DS} {v : D} (h : Sat (g (ss ++ List.replicate (n - ss.length) .no)) fun fl s => retD fl = some v ∧ okOuts ss s = true ∧ leftD ss s = os) : runD (fnM n g) ss = .ok v os := by
  obtain ⟨fl, s, e, hr, ho, rfl⟩ := h.of
  unfold runD fnM
  rw [e]
  cases fl with
  | nx => cases hr; simp [ho, okOuts_len ho]
  | rt d => cases hr; simp [ho, okOuts_len ho]
  | bk => cases hr
  | ct => cases hr
/-- the same, what is told of the value left open -/
theorem runD_ex {n : Nat} {g : DS → Res Fl} {ss os : DS} {q : D → Prop} (h : Sat (g (ss ++ List.replicate (n - ss.length) .no)) fun fl s => ∃ v, retD fl = some v ∧ okOuts ss s = true ∧ leftD ss s = os ∧ q v) : ∃ v, runD (fnM n g) ss = .ok v os ∧ q v := by
  obtain ⟨fl, s, e, v, hr, ho, hc, hq⟩ := h.of
  exact ⟨v, runD_of (by rw [e]; exact ⟨hr, ho, hc⟩), hq⟩
/-- the same, what is told of what is left open too -/
theorem runD_ex2 {n : Nat} {g : DS → Res Fl} {ss : DS} {q : D → DS → Prop} (h : Sat (g (ss ++ List.replicate (n - ss.length) .no)) fun fl s => ∃ v, retD fl = some v ∧ okOuts ss s = true ∧ q v (leftD ss s)) : ∃ v os, runD (fnM n g) ss = .ok v os ∧ q v os := by
  obtain ⟨fl, s, e, v, hr, ho, hq⟩ := h.of
  exact ⟨v, _, runD_of (by rw [e]; exact ⟨hr, ho, rfl⟩), hq⟩
theorem runD_ok {m : DS → Res D} {ss os : DS} {v : D} (h : runD m ss = .ok v os) : ∃ outs, m ss = .ok v outs := by
  unfold runD at h
  split at h
  · rename_i d outs e
    split at h
    · cases h; exact ⟨_, e⟩
    · cases h
  · split at h <;> cases h
  · cases h
/-! ### for -/
/-- a loop, by what holds ahead of each item -/
theorem sat_for {τ : Type} (φ : τ → D) {g : D → DS → Option DS} {body : DS → Res Fl} {p : Fl → DS → Prop} (I : List τ → DS → Prop) {ts0 : List τ} {items : List D} {s0 : DS} (hi : items = ts0.map φ) (h0 : I ts0 s0)
    (hs : ∀ x xs s, (x :: xs) <:+ ts0 → I (x :: xs) s → ∃ s1, g (φ x) s = some s1 ∧ Sat (body s1) fun fl s2 => match fl with
      | .nx => I xs s2
      | .ct => I xs s2
      | .bk => p .nx s2
      | .rt d => p (.rt d) s2)
    (he : ∀ s, I [] s → p .nx s) : Sat (forM g body items s0) p := by
  subst hi
  have key : ∀ (ts : List τ) (s : DS), ts <:+ ts0 → I ts s → Sat (forM g body (ts.map φ) s) p := by
    intro ts
    induction ts with
    | nil => intro s _ h; exact he s h
    | cons x xs ih =>
      intro s hsuf h
      obtain ⟨s1, e1, h1⟩ := hs x xs s hsuf h
      have hsuf2 : xs <:+ ts0 := (List.suffix_cons x xs).trans hsuf
      rw [List.map_cons]
      unfold forM
      rw [e1]
      dsimp only
      rw [sat_bind]
      refine h1.imp fun fl s2 h2 => ?_
      cases fl with
      | nx => exact ih s2 hsuf2 h2
      | ct => exact ih s2 hsuf2 h2
      | bk => exact h2
      | rt d => exact h2
  exact key ts0 s0 (List.suffix_refl _) h0
/-! ### comprehensions -/
theorem sat_lc {τ : Type} (φ : τ → D) {vs : List Nat} {g : D → DS → Option DS} {t : DS → Res Bool} {e : DS → Res D} {p : Own → DS → Prop} (I : List τ → List D → DS → Prop) {ts0 : List τ} {items : List D} {s0 : DS} (hi : items = ts0.map φ)
    (ho : okOwn s0 vs = true) (hl : ts0.length ≤ sizeLine) (h0 : I ts0 [] s0)
    (hs : ∀ x xs ys s, (x :: xs) <:+ ts0 → I (x :: xs) ys s → ∃ s1, g (φ x) (wipeD s vs) = some s1 ∧ Sat (t s1) fun b s2 => match b with
      | true => Sat (e s2) fun y s3 => I xs (ys ++ [y]) s3
      | false => I xs ys s2)
    (he : ∀ ys s, I [] ys s → p (.l ys) (restD s0 s vs)) : Sat (lcRun vs g t e items s0) p := by
  subst hi
  have key : ∀ (ts : List τ) (ys : List D) (s : DS), ts <:+ ts0 → I ts ys s → Sat (lcM vs g t e (ts.map φ) s) fun zs s2 => I [] (ys ++ zs) s2 := by
    intro ts
    induction ts with
    | nil => intro ys s _ h; simpa [lcM] using h
    | cons x xs ih =>
      intro ys s hsuf h
      obtain ⟨s1, e1, h1⟩ := hs x xs ys s hsuf h
      have hsuf2 : xs <:+ ts0 := (List.suffix_cons x xs).trans hsuf
      rw [List.map_cons]
      unfold lcM
      rw [e1]
      dsimp only
      rw [sat_bind, sat_noex]
      refine h1.imp fun b s2 h2 => ?_
      cases b with
      | true =>
        dsimp only at h2 ⊢
        rw [sat_bind, sat_noex]
        refine h2.imp fun y s3 h3 => ?_
        rw [sat_bind]
        refine (ih _ s3 hsuf2 h3).imp fun zs s4 h4 => ?_
        simpa using h4
      | false => exact ih ys s2 hsuf2 h2
  unfold lcRun
  rw [if_pos ⟨ho, by simpa using hl⟩, sat_bind]
  refine (key ts0 [] s0 (List.suffix_refl _) h0).imp fun zs s h => ?_
  exact he zs s (by simpa using h)
theorem wipeD_get : ∀ (vs : List Nat) (s : DS) (j : Nat), (wipeD s vs)[j]? = if j ∈ vs ∧ j < s.length then some .no else s[j]?
  | [], s, j => by simp [wipeD]
  | v :: vs, s, j => by
    have hl : ∀ (vs : List Nat), (wipeD s vs).length = s.length := by
      intro vs
      induction vs with
      | nil => rfl
      | cons v vs ih => simp [wipeD, ih]
    unfold wipeD
    rw [List.getElem?_set, wipeD_get vs s j, hl]
    by_cases z : v = j
    · subst z
      by_cases h : v < s.length
      · simp [h]
      · simp [h]
    · rw [if_neg z]
      have : j ≠ v := fun w => z w.symm
      simp [this]
theorem restD_get : ∀ (vs : List Nat) (s1 s : DS) (j : Nat), (restD s1 s vs)[j]? = if j ∈ vs ∧ j < s.length then some (s1.getD j .no) else s[j]?
  | [], s1, s, j => by simp [restD]
  | v :: vs, s1, s, j => by
    have hl : ∀ (vs : List Nat), (restD s1 s vs).length = s.length := by
      intro vs
      induction vs with
      | nil => rfl
      | cons v vs ih => simp [restD, ih]
    unfold restD
    rw [List.getElem?_set, restD_get vs s1 s j, hl]
    by_cases z : v = j
    · subst z
      by_cases h : v < s.length
      · simp [h]
      · simp [h]
    · rw [if_neg z]
      have : j ≠ v := fun w => z w.symm
      simp [this]
theorem rest_self {s s2 : DS} {vs : List Nat} (h : wipeD s2 vs = wipeD s vs) : restD s s2 vs = s := by
  apply List.ext_getElem?
  intro j
  have h1 := wipeD_get vs s2 j
  have h2 := wipeD_get vs s j
  rw [h, h2] at h1
  have hl : s2.length = s.length := by
    have hh : ∀ (s : DS) (vs : List Nat), (wipeD s vs).length = s.length := by
      intro s vs
      induction vs with
      | nil => rfl
      | cons v vs ih => simp [wipeD, ih]
    rw [← hh s2 vs, h, hh]
  rw [restD_get, hl]
  by_cases z : j ∈ vs ∧ j < s.length
  · rw [if_pos z, List.getD_eq_getElem?_getD, List.getElem?_eq_getElem z.2]; rfl
  · rw [if_neg z]
    rw [hl, if_neg z, if_neg z] at h1
    exact h1.symm
/-- a comprehension that changes nothing else -/
theorem sat_map {τ : Type} (φ : τ → D) (c : τ → Bool) (f : τ → D) {vs : List Nat} {g : D → DS → Option DS} {t : DS → Res Bool} {e : DS → Res D} {p : Own → DS → Prop} {ts0 : List τ} {items : List D} {s0 : DS} (hi : items = ts0.map φ)
    (ho : okOwn s0 vs = true) (hl : ts0.length ≤ sizeLine)
    (hs : ∀ x ∈ ts0, ∃ s1, g (φ x) (wipeD s0 vs) = some s1 ∧ Sat (t s1) fun b s2 => b = c x ∧ wipeD s2 vs = wipeD s0 vs ∧ (c x = true → Sat (e s2) fun y s3 => y = f x ∧ wipeD s3 vs = wipeD s0 vs))
    (he : p (.l ((ts0.filter c).map f)) s0) : Sat (lcRun vs g t e items s0) p := by
  refine sat_lc φ (fun ts ys s => wipeD s vs = wipeD s0 vs ∧ ∃ ds, ds ++ ts = ts0 ∧ ys = (ds.filter c).map f) hi ho hl ⟨rfl, [], rfl, rfl⟩ (fun x xs ys s hsuf ⟨hw, ds, hd, hy⟩ => ?_) fun ys s ⟨hw, ds, hd, hy⟩ => ?_
  · obtain ⟨s1, e1, h1⟩ := hs x (hsuf.subset (by simp))
    refine ⟨s1, by rw [hw]; exact e1, h1.imp fun b s2 ⟨hb, hw2, h2⟩ => ?_⟩
    subst hb
    cases hc : c x with
    | true =>
      dsimp only
      refine (h2 hc).imp fun y s3 ⟨hy3, hw3⟩ => ⟨hw3, ds ++ [x], by simpa using hd, ?_⟩
      subst hy3 hy
      simp [hc]
    | false => exact ⟨hw2, ds ++ [x], by simpa using hd, by subst hy; simp [hc]⟩
  · rw [rest_self hw]
    have : ds = ts0 := by simpa using hd
    subst this hy
    exact he
/-! ### while -/
theorem while_done {c : DS → Res Bool} {b : DS → Res Fl} {s s1 : DS} (h : c s = .ok false s1) : sWhile c b s = .ok .nx s1 := sWhile_eq (n := 1) (by unfold whileM; rw [h])
theorem while_next {c : DS → Res Bool} {b : DS → Res Fl} {s s1 s2 s3 : DS} {fl : Fl} (h : c s = .ok true s1) (h2 : b s1 = .ok .nx s2) (h3 : sWhile c b s2 = .ok fl s3) : sWhile c b s = .ok fl s3 := by
  have : ∃ n, whileM c b n s2 = some (.ok fl s3) := by
    unfold sWhile at h3
    split at h3
    · rename_i hn
      have hq := hn.choose_spec
      obtain ⟨r, hr⟩ := Option.isSome_iff_exists.mp hq
      rw [hr] at h3
      exact ⟨_, hr.trans (congrArg some h3)⟩
    · cases h3
  obtain ⟨n, hn⟩ := this
  exact sWhile_eq (n := n + 1) (by unfold whileM; rw [h]; dsimp only; rw [h2]; exact hn)
theorem sat_while {c : DS → Res Bool} {b : DS → Res Fl} {p : Fl → DS → Prop} (I : Nat → DS → Prop) {s : DS} {n : Nat} (h0 : I n s)
    (hs : ∀ n s, I n s → Sat (c s) fun t s1 => match t with
      | true => Sat (b s1) fun fl s2 => fl = .nx ∧ ∃ m, m < n ∧ I m s2
      | false => p .nx s1) : Sat (sWhile c b s) p := by
  induction n using Nat.strongRecOn generalizing s with
  | _ n ih =>
    obtain ⟨t, s1, e1, h1⟩ := (hs n s h0).of
    cases t with
    | true =>
      obtain ⟨fl, s2, e2, rfl, m, hm, h2⟩ := h1.of
      obtain ⟨fl, s3, e3, h3⟩ := (ih m hm h2).of
      rw [while_next e1 e2 e3]
      exact h3
    | false => rw [while_done e1]; exact h1
@[simp] theorem leftD_s1 : type_of% @DL.leftD.eq_1 := @DL.leftD.eq_1
@[simp] theorem leftD_s2 : type_of% @DL.leftD.eq_2 := @DL.leftD.eq_2
@[simp] theorem leftD_s3 : type_of% @DL.leftD.eq_3 := @DL.leftD.eq_3
@[simp] theorem leftD_s4 : type_of% @DL.leftD.eq_4 := @DL.leftD.eq_4
@[simp] theorem retD_sq : type_of% @DL.retD.eq_def := @DL.retD.eq_def
end DL

set_option autoImplicit true
/-! D-layer, part y: ints, triples, terms. -/
namespace DL
open PySem PySem.Spec PyProof.Rows L2 PM
set_option autoImplicit false
@[simp] theorem ixN_sq : type_of% @ixN.eq_def := @ixN.eq_def
@[simp] theorem subT_sq : type_of% @DL.subT.eq_def := @DL.subT.eq_def
@[simp] theorem eqD_sq : type_of% @DL.eqD.eq_def := @DL.eqD.eq_def
@[simp] theorem neD_sq : type_of% @DL.neD.eq_def := @DL.neD.eq_def
@[simp] theorem inD_sq : type_of% @DL.inD.eq_def := @DL.inD.eq_def
@[simp] theorem notInD_sq : type_of% @DL.notInD.eq_def := @DL.notInD.eq_def
@[simp] theorem atI_nat {α : Type} (xs : List α) (n : Nat) : atI xs (n : Int) = xs[n]? := by
  unfold atI ixN
  rw [if_pos (Int.natCast_nonneg n)]
  by_cases h : n < xs.length
  · rw [if_pos (by omega)]; simp
  · rw [if_neg (by omega)]
    exact (List.getElem?_eq_none (by omega)).symm
@[simp] theorem atI_0 {α : Type} (xs : List α) : atI xs 0 = xs[0]? := atI_nat xs 0
@[simp] theorem atI_1 {α : Type} (xs : List α) : atI xs 1 = xs[1]? := atI_nat xs 1
@[simp] theorem atI_2 {α : Type} (xs : List α) : atI xs 2 = xs[2]? := atI_nat xs 2
@[simp] theorem atI_3 {α : Type} (xs : List α) : atI xs 3 = xs[3]? := atI_nat xs 3
@[simp] theorem atI_4 {α : Type} (xs : List α) : atI xs 4 = xs[4]? := atI_nat xs 4
@[simp] theorem atI_5 {α : Type} (xs : List α) : atI xs 5 = xs[5]? := atI_nat xs 5
@[simp] theorem atI_6 {α : Type} (xs : List α) : atI xs 6 = xs[6]? := atI_nat xs 6
@[simp] theorem atI_7 {α : Type} (xs : List α) : atI xs 7 = xs[7]? := atI_nat xs 7
@[simp] theorem atI_8 {α : Type} (xs : List α) : atI xs 8 = xs[8]? := atI_nat xs 8
@[simp] theorem atI_9 {α : Type} (xs : List α) : atI xs 9 = xs[9]? := atI_nat xs 9
@[simp] theorem atI_10 {α : Type} (xs : List α) : atI xs 10 = xs[10]? := atI_nat xs 10
@[simp] theorem atI_11 {α : Type} (xs : List α) : atI xs 11 = xs[11]? := atI_nat xs 11
theorem atI_pos {α : Type} (xs : List α) {i : Int} (h : 0 ≤ i) : atI xs i = xs[i.toNat]? := by
  have := atI_nat xs i.toNat
  rwa [Int.toNat_of_nonneg h] at this
theorem toPys_ints : ∀ ns : List Int, toPys (ns.map D.int) = some (ns.map PyData.int)
  | [] => rfl
  | n :: ns => by simp [toPys_ints ns]
theorem canLay_ints : ∀ ns : List Int, PyData.canLayAll0 (ns.map PyData.int) = true
  | [] => rfl
  | n :: ns => by simp [PyData.canLayAll0, PyData.canLay0, canLay_ints ns]
theorem depth_ints : ∀ ns : List Int, PyData.depthAll (ns.map PyData.int) ≤ 1
  | [] => by simp [PyData.depthAll]
  | n :: ns => by
    have := depth_ints ns
    simp [PyData.depthAll, PyData.depth]
    omega
@[simp] theorem absD_int (a : Int) : absD (.int a) = some (.int a.natAbs) := by
  unfold absD
  dsimp only
  split
  · congr 2; omega
  · congr 2; omega
@[simp] theorem eqDB_int (a b : Int) : eqDB (.int a) (.int b) = some (decide (a = b)) := by
  unfold eqDB
  simp [SeqAt.shaped, PyData.canLay0, PyData.depth, PyData.eqv]
  rfl
theorem shaped_tints (ns : List Int) : SeqAt.shaped (.tuple (ns.map PyData.int)) = true := by
  have h1 := depth_ints ns
  simp [SeqAt.shaped, PyData.canLay0, PyData.depth, canLay_ints]
  omega
theorem shaped_lints (ns : List Int) : SeqAt.shaped (.list (ns.map PyData.int)) = true := by
  have h1 := depth_ints ns
  simp [SeqAt.shaped, PyData.canLay0, PyData.depth, canLay_ints]
  omega
theorem eqDB_tints (ns ms : List Int) : eqDB (.tup (ns.map D.int)) (.tup (ms.map D.int)) = some (decide (ns = ms)) := by
  unfold eqDB
  simp [toPys_ints, shaped_tints, PyData.eqv, PySem.W.ked_eqvAll]
theorem eqDB_lints (ns ms : List Int) : eqDB (.lst (ns.map D.int)) (.lst (ms.map D.int)) = some (decide (ns = ms)) := by
  unfold eqDB
  simp [toPys_ints, shaped_lints, PyData.eqv, PySem.W.ked_eqvAll]
/-! triples -/
def pD (p : P3) : D := .tup [.int p.1, .int p.2.1, .int p.2.2]
def k3 (p : P3) : List Key := [.inl p.1, .inl p.2.1, .inl p.2.2]
def tmD (x : P3 × Int) : D := .tup [.int x.1.1, .int x.1.2.1, .int x.1.2.2, .int x.2]
def tbl (t : Tb) : List (List Key × D) := t.map fun x => (k3 x.1, .int x.2)
@[simp] theorem tbl_len (t : Tb) : (tbl t).length = t.length := by simp [tbl]
@[simp] theorem tbl_emp (t : Tb) : (tbl t).isEmpty = t.isEmpty := by cases t <;> rfl
@[simp] theorem size_pos : 0 < sizeLine := by decide
theorem k3_inj {p q : P3} : k3 p = k3 q ↔ p = q := by
  obtain ⟨a, b, c⟩ := p
  obtain ⟨d, e, f⟩ := q
  simp [k3]
@[simp] theorem dKeys_pD (p : P3) : dKeys (pD p) = some (k3 p) := rfl
@[simp] theorem dKeys_tup3 (a b c : Int) : dKeys (.tup [.int a, .int b, .int c]) = some (k3 (a, b, c)) := rfl
theorem keyD_k3 (p : P3) : D.tup ((k3 p).map kD) = pD p := rfl
@[simp] theorem valD_tbl (t : Tb) (p : P3) : valD (tbl t) (k3 p) = (val t p).map .int := by
  induction t with
  | nil => rfl
  | cons x t ih =>
    unfold valD tbl val at *
    rw [List.map_cons, List.find?_cons, List.find?_cons]
    by_cases h : x.1 = p
    · subst h; simp
    · have h2 : ¬(k3 x.1 = k3 p) := fun z => h (k3_inj.mp z)
      simp only [h, h2, decide_false]
      exact ih
@[simp] theorem putD_tbl (t : Tb) (p : P3) (n : Int) : putD (tbl t) (k3 p) (.int n) = tbl (put t p n) := by
  have e : ((tbl t).any fun kv => decide (kv.1 = k3 p)) = t.any fun x => decide (x.1 = p) := by
    unfold tbl
    rw [List.any_map]
    congr 1
    funext x
    simp [k3_inj]
  unfold putD put
  rw [e]
  split
  · unfold tbl
    rw [List.map_map, List.map_map]
    apply List.map_congr_left
    intro x _
    simp only [Function.comp]
    by_cases h : x.1 = p
    · simp [h]
    · have h2 : ¬(k3 x.1 = k3 p) := fun z => h (k3_inj.mp z)
      simp [h, h2]
  · simp [tbl]
theorem pD_ints (p : P3) : pD p = .tup ([p.1, p.2.1, p.2.2].map D.int) := rfl
@[simp] theorem eqDB_pD (p q : P3) : eqDB (pD p) (pD q) = some (decide (p = q)) := by
  rw [pD_ints, pD_ints, eqDB_tints]
  obtain ⟨a, b, c⟩ := p
  obtain ⟨d, e, f⟩ := q
  simp
/-- walking a table's keys -/
theorem tbl_keys (t : Tb) : (tbl t).map (fun p => D.tup (p.1.map kD)) = (keys t).map pD := by
  unfold tbl keys
  rw [List.map_map, List.map_map]
  rfl
/-! dict of pairs -/
def prD (x : P3 × Int) : D := .tup [pD x.1, .int x.2]
theorem pairsT_prD : ∀ l : Tb, pairsT (l.map prD) = some (tbl l)
  | [] => rfl
  | x :: l => by
    have := pairsT_prD l
    rw [List.map_cons]
    unfold pairsT
    rw [this]
    rfl
theorem mergeD_tbl : ∀ (l t : Tb), (keys (t ++ l)).Nodup → mergeD (tbl t) (tbl l) = tbl (t ++ l)
  | [], t, _ => by simp [mergeD, tbl]
  | x :: l, t, nd => by
    have h : x.1 ∉ keys t := by
      unfold keys at nd ⊢
      rw [List.map_append, List.map_cons, List.nodup_append] at nd
      intro z
      exact nd.2.2 _ z _ (by simp) rfl
    have e : put t x.1 x.2 = t ++ [x] := by
      unfold put
      rw [if_neg (fun z => h (any_keys.mp z))]
    have := mergeD_tbl l (t ++ [x]) (by simpa using nd)
    unfold mergeD at this ⊢
    have e2 : tbl (x :: l) = (k3 x.1, .int x.2) :: tbl l := rfl
    rw [e2, List.foldl_cons, putD_tbl, e, this]
    simp
theorem dictT_prD {l : Tb} (hl : l.length ≤ 1000) (nd : (keys l).Nodup) : dictT (.lst (l.map prD)) = some (.T (tbl l)) := by
  have h := mergeD_tbl l [] (by simpa using nd)
  unfold dictT
  have : sizeOk (l.map prD).length := by
    rw [List.length_map]
    unfold sizeOk sizeLine
    omega
  simp only [pairsT_prD, this, if_true, Option.map_some]
  exact congrArg (fun z => some (Own.T z)) h
/-! sorting -/
section
open PyProof.Rows PySem.W
theorem blt_inl (a b : Int) : itemOrd.blt (.inl a) (.inl b) = decide (a < b) := rfl
theorem lex2 (a b : Int) (ls ms : List (Int ⊕ List Nat)) : lexLt itemOrd (.inl 1 :: .inl a :: ls) (.inl 1 :: .inl b :: ms) = if a = b then lexLt itemOrd ls ms else decide (a < b) := by
  rw [PyProof.Rows.lex_cons, PyProof.Rows.lex_cons, blt_inl, blt_inl, blt_inl]
  by_cases h : a = b
  · subst h; simp
  · rw [if_neg h]
    by_cases k : a < b
    · simp [k]
    · have : b < a := by omega
      simp [k, this]
theorem lex3 (p q : P3) (ls ms : List (Int ⊕ List Nat)) : lexLt itemOrd (.inl 1 :: .inl p.1 :: .inl 1 :: .inl p.2.1 :: .inl 1 :: .inl p.2.2 :: ls) (.inl 1 :: .inl q.1 :: .inl 1 :: .inl q.2.1 :: .inl 1 :: .inl q.2.2 :: ms) = if p = q then lexLt itemOrd ls ms else decide (Lt p q) := by
  rw [lex2, lex2, lex2]
  obtain ⟨a, b, c⟩ := p
  obtain ⟨d, e, f⟩ := q
  unfold Lt
  dsimp only
  by_cases h1 : a = d
  · subst h1
    by_cases h2 : b = e
    · subst h2
      by_cases h3 : c = f
      · subst h3; simp
      · simp [h3]
    · simp [h2]
  · simp [h1]
theorem le_pD (p q : P3) : dataLe false encD (pD p) (pD q) = !decide (Lt q p) := by
  show (!lexLt itemOrd (keyToks (encD (pD q))) (keyToks (encD (pD p)))) = _
  have : ∀ p : P3, keyToks (encD (pD p)) = .inl 1 :: .inl p.1 :: .inl 1 :: .inl p.2.1 :: .inl 1 :: .inl p.2.2 :: [.inl 0] := fun p => rfl
  rw [this, this, lex3]
  by_cases h : q = p
  · subst h
    have := Lt.irrefl q
    have e : lexLt itemOrd [.inl 0] [.inl 0] = false := rfl
    simp [this, e]
  · simp [h]
theorem le_tmD (x y : P3 × Int) (h : x.1 = y.1 → x = y) : dataLe false encD (tmD x) (tmD y) = PM.le x y := by
  show (!lexLt itemOrd (keyToks (encD (tmD y))) (keyToks (encD (tmD x)))) = _
  have : ∀ x : P3 × Int, keyToks (encD (tmD x)) = .inl 1 :: .inl x.1.1 :: .inl 1 :: .inl x.1.2.1 :: .inl 1 :: .inl x.1.2.2 :: [.inl 1, .inl x.2, .inl 0] := fun p => rfl
  rw [this, this, lex3]
  unfold PM.le
  by_cases k : y.1 = x.1
  · have := h k.symm
    subst this
    have := Lt.irrefl x.1
    have e : lexLt itemOrd [.inl 1, .inl x.2, .inl 0] [.inl 1, .inl x.2, .inl 0] = false := by
      rw [lex2, if_pos rfl]; rfl
    simp [this, e]
  · simp [k]
end
theorem nodup_inj {t : Tb} (nd : (keys t).Nodup) {x y : P3 × Int} (hx : x ∈ t) (hy : y ∈ t) (h : x.1 = y.1) : x = y := by
  have h1 := val_mem nd hx
  have h2 := val_mem nd hy
  rw [h] at h1
  have := Option.some.inj (h1.symm.trans h2)
  exact Prod.ext h this
theorem sortL_tm {t : Tb} (nd : (keys t).Nodup) : sortL (t.map tmD) = (t.mergeSort PM.le).map tmD := by
  unfold sortL
  refine (List.map_mergeSort fun a ha b hb => ?_).symm
  exact (le_tmD a b fun h => nodup_inj nd ha hb h).symm
theorem sortL_pD (t : Tb) : sortL ((keys t).map pD) = (keys (t.mergeSort PM.le)).map pD := by
  unfold sortL keys
  rw [List.map_map, List.map_map]
  refine (List.map_mergeSort fun a ha b hb => ?_).symm
  exact (le_pD a.1 b.1).symm
theorem sortOk_to {ds : List D} (h1 : ∀ d ∈ ds, (toPy d).isSome = true) (h2 : ∀ d ∈ ds, ∀ e ∈ ds, PySem.W.alike (encD d) (encD e) = true) (h3 : ∀ d ∈ ds, isTup1 (encD d) = true) (h4 : ∀ d ∈ ds, (encD d).depth ≤ 8) (h5 : ds.length ≤ 1000) : sortOk ds = true := by
  unfold sortOk
  have : ds.length ≤ sizeLine := by unfold sizeLine; omega
  rw [List.all_eq_true.mpr h1, List.all_eq_true.mpr h3, List.all_eq_true.mpr fun d hd => decide_eq_true (h4 d hd), List.all_eq_true.mpr fun d hd => List.all_eq_true.mpr (h2 d hd), decide_eq_true this]
  rfl
theorem depth_pD (p : P3) : (encD (pD p)).depth ≤ 8 := by
  have e : encD (pD p) = .tuple ([p.1, p.2.1, p.2.2].map PyData.int) := rfl
  have := depth_ints [p.1, p.2.1, p.2.2]
  rw [e]
  unfold PyData.depth
  omega
theorem depth_tmD (x : P3 × Int) : (encD (tmD x)).depth ≤ 8 := by
  have e : encD (tmD x) = .tuple ([x.1.1, x.1.2.1, x.1.2.2, x.2].map PyData.int) := rfl
  have := depth_ints [x.1.1, x.1.2.1, x.1.2.2, x.2]
  rw [e]
  unfold PyData.depth
  omega
theorem sortOk_tm {t : Tb} (h : t.length ≤ 1000) : sortOk (t.map tmD) = true := by
  refine sortOk_to (fun d hd => ?_) (fun d hd e he => ?_) (fun d hd => ?_) (fun d hd => ?_) (by simpa using h)
  · obtain ⟨x, _, rfl⟩ := List.mem_map.mp hd; rfl
  · obtain ⟨x, _, rfl⟩ := List.mem_map.mp hd
    obtain ⟨y, _, rfl⟩ := List.mem_map.mp he; rfl
  · obtain ⟨x, _, rfl⟩ := List.mem_map.mp hd; rfl
  · obtain ⟨x, _, rfl⟩ := List.mem_map.mp hd; exact depth_tmD x
theorem sortOk_pD {l : List P3} (h : l.length ≤ 1000) : sortOk (l.map pD) = true := by
  refine sortOk_to (fun d hd => ?_) (fun d hd e he => ?_) (fun d hd => ?_) (fun d hd => ?_) (by simpa using h)
  · obtain ⟨x, _, rfl⟩ := List.mem_map.mp hd; rfl
  · obtain ⟨x, _, rfl⟩ := List.mem_map.mp hd
    obtain ⟨y, _, rfl⟩ := List.mem_map.mp he; rfl
  · obtain ⟨x, _, rfl⟩ := List.mem_map.mp hd; rfl
  · obtain ⟨x, _, rfl⟩ := List.mem_map.mp hd; exact depth_pD x
theorem keys_len (t : Tb) : (keys t).length = t.length := by simp [keys]
theorem sortD_tm {t : Tb} (h : t.length ≤ 1000) (nd : (keys t).Nodup) : sortD (.lst (t.map tmD)) = some (.l ((sorted t).reverse.map tmD)) := by
  unfold sortD
  simp only [sortOk_tm h, if_true, sortL_tm nd, sorted, List.reverse_reverse]
theorem sortD_tup {t : Tb} (h : t.length ≤ 1000) : sortD (.dT (tbl t)) = some (.l ((keys (sorted t)).reverse.map pD)) := by
  have e : ((tbl t).map fun p => keyD p.1) = (keys t).map pD := by
    unfold tbl keys
    rw [List.map_map, List.map_map]
    rfl
  have hl : (keys t).length ≤ 1000 := by rw [keys_len]; exact h
  unfold sortD
  simp only [e, sortOk_pD hl, if_true, sortL_pD, sorted]
  simp [keys]
/-! terms alike -/
theorem toPys_tm : ∀ t : Tb, ∃ ps, toPys (t.map tmD) = some ps ∧ PyData.canLayAll0 ps = true ∧ PyData.depthAll ps ≤ 2
  | [] => ⟨[], rfl, rfl, by simp [PyData.depthAll]⟩
  | x :: t => by
    obtain ⟨ps, e, h1, h2⟩ := toPys_tm t
    refine ⟨.tuple [.int x.1.1, .int x.1.2.1, .int x.1.2.2, .int x.2] :: ps, ?_, ?_, ?_⟩
    · rw [List.map_cons]
      unfold toPys
      rw [e]
      rfl
    · simp [PyData.canLayAll0, PyData.canLay0, h1]
    · simp [PyData.depthAll, PyData.depth]
      omega
@[simp] theorem eqDB_tm (t : Tb) : eqDB (.tup (t.map tmD)) (.tup (t.map tmD)) = some true := by
  obtain ⟨ps, e, h1, h2⟩ := toPys_tm t
  have e2 : toPy (.tup (t.map tmD)) = some (.tuple ps) := by
    unfold toPy; rw [e]; rfl
  have hs : SeqAt.shaped (.tuple ps) = true := by
    simp [SeqAt.shaped, PyData.canLay0, PyData.depth, h1]
    omega
  unfold eqDB
  rw [e2]
  simp [hs, SeqAt.eqv_refl (.tuple ps) (by simp [PyData.canLay0, h1])]
/-! is it among them -/
theorem inB_pD (p : P3) (l : List P3) (hl : l.length ≤ 1000) : inB (pD p) (.lst (l.map pD)) = some (decide (p ∈ l)) := by
  have h : ∀ l : List P3, toPys (l.map pD) = some (l.map fun p => PyData.tuple [.int p.1, .int p.2.1, .int p.2.2]) := by
    intro l
    induction l with
    | nil => rfl
    | cons x l ih =>
      rw [List.map_cons]
      unfold toPys
      rw [ih]
      rfl
  have c : ∀ l : List P3, PyData.canLayAll0 (l.map fun p => PyData.tuple [.int p.1, .int p.2.1, .int p.2.2]) = true ∧ PyData.depthAll (l.map fun p => PyData.tuple [.int p.1, .int p.2.1, .int p.2.2]) ≤ 2 := by
    intro l
    induction l with
    | nil => simp [PyData.canLayAll0, PyData.depthAll]
    | cons x l ih =>
      obtain ⟨h1, h2⟩ := ih
      simp [PyData.canLayAll0, PyData.canLay0, PyData.depthAll, PyData.depth, h1]
      omega
  have hp : toPy (pD p) = some (.tuple [.int p.1, .int p.2.1, .int p.2.2]) := rfl
  have s1 : SeqAt.shaped (.tuple [.int p.1, .int p.2.1, .int p.2.2]) = true := shaped_tints [p.1, p.2.1, p.2.2]
  have s2 : SeqAt.shaped (.list (l.map fun p => PyData.tuple [.int p.1, .int p.2.1, .int p.2.2])) = true := by
    obtain ⟨h1, h2⟩ := c l
    simp [SeqAt.shaped, PyData.canLay0, PyData.depth, h1]
    omega
  unfold inB
  simp only [hp, h, s1, s2, and_self, if_true]
  congr 1
  unfold anyEq
  rw [List.any_map]
  have : ∀ q : P3, PyData.eqv (.tuple [.int q.1, .int q.2.1, .int q.2.2]) (.tuple [.int p.1, .int p.2.1, .int p.2.2]) = decide (q = p) := by
    intro q
    have := PySem.W.ked_eqvAll [q.1, q.2.1, q.2.2] [p.1, p.2.1, p.2.2]
    simp only [List.map_cons, List.map_nil] at this
    rw [PyData.eqv, this]
    obtain ⟨a, b, c⟩ := p
    obtain ⟨d, e, f⟩ := q
    simp
  induction l with
  | nil => simp
  | cons x l ih =>
    have ih := ih (by simp at hl; omega) (by
      obtain ⟨h1, h2⟩ := c l
      simp [SeqAt.shaped, PyData.canLay0, PyData.depth, h1]
      omega)
    rw [List.any_cons, ih]
    simp only [Function.comp, this]
    by_cases z : x = p
    · simp [z]
    · have : ¬(p = x) := fun w => z w.symm
      simp [z, this]
/-! what may be multiplied and divided -/
theorem mulOk_of {a b : Int} {n m : Nat} (h : a.natAbs < 2 ^ n) (k : b.natAbs < 2 ^ m) (e : n + m < 100000000) : MulOk a b := by
  unfold MulOk
  have l : ∀ {x : Int} {n : Nat}, x.natAbs < 2 ^ n → x.natAbs.log2 ≤ n := by
    intro x n hx
    by_cases z : x.natAbs = 0
    · rw [z]; simp
    · exact Nat.le_of_lt ((Nat.log2_lt z).mpr hx)
  have := l h
  have := l k
  omega
theorem divOk_of {a b : Int} {n : Nat} (h0 : b ≠ 0) (h : b.natAbs < 2 ^ n) (e : n < 9000) : DivOk a b := by
  refine ⟨h0, PyProof.noPylong_of_log2 ?_⟩
  have : b.natAbs ≠ 0 := by omega
  have := (Nat.log2_lt this).mpr h
  omega
end DL

set_option autoImplicit true
/-! D-layer, part z: statement by statement; comprehensions as equations. -/
namespace DL
open PySem PySem.Spec PyProof.Rows L2 PM
set_option autoImplicit false
theorem Sat.eq {α : Type} {r : Res α} {a : α} {s : DS} (h : Sat r fun b t => b = a ∧ t = s) : r = .ok a s := by
  obtain ⟨b, t, e, rfl, rfl⟩ := h.of
  exact e
theorem seq_eq {f g : DS → Res Fl} {s s' : DS} (h : f s = .ok .nx s') : sSeq f g s = g s' := by
  show (f s).bind _ = _
  rw [h]; rfl
theorem sat_seq {f g : DS → Res Fl} {s : DS} (s' : DS) {p : Fl → DS → Prop} (h : f s = .ok .nx s') (k : Sat (g s') p) : Sat (sSeq f g s) p := by
  rw [seq_eq h]; exact k
/-- a comprehension that takes every item and changes nothing else -/
theorem lc_map {τ : Type} (φ f : τ → D) {vs : List Nat} {g : D → DS → Option DS} {e : DS → Res D} {ts0 : List τ} {items : List D} {s0 : DS} (hi : items = ts0.map φ)
    (ho : okOwn s0 vs = true) (hl : ts0.length ≤ sizeLine)
    (hs : ∀ x ∈ ts0, ∃ s1, g (φ x) (wipeD s0 vs) = some s1 ∧ ∃ s2, e s1 = .ok (f x) s2 ∧ wipeD s2 vs = wipeD s0 vs) : lcRun vs g tYesD e items s0 = .ok (.l (ts0.map f)) s0 := by
  refine Sat.eq (sat_lc φ (fun ts ys s => wipeD s vs = wipeD s0 vs ∧ ∃ ds, ds ++ ts = ts0 ∧ ys = ds.map f) hi ho hl ⟨rfl, [], rfl, rfl⟩ (fun x xs ys s hsuf ⟨hw, ds, hd, hy⟩ => ?_) fun ys s ⟨hw, ds, hd, hy⟩ => ?_)
  · obtain ⟨s1, e1, s2, e2, hw2⟩ := hs x (hsuf.subset (by simp))
    refine ⟨s1, by rw [hw]; exact e1, ?_⟩
    show Sat (e s1) _
    rw [e2]
    exact ⟨hw2, ds ++ [x], by simpa using hd, by subst hy; simp⟩
  · rw [rest_self hw]
    have : ds = ts0 := by simpa using hd
    subst this hy
    exact ⟨rfl, rfl⟩
/-- the same, with a test -/
theorem lc_fil {τ : Type} (φ : τ → D) (c : τ → Bool) (f : τ → D) {vs : List Nat} {g : D → DS → Option DS} {t : DS → Res Bool} {e : DS → Res D} {ts0 : List τ} {items : List D} {s0 : DS} (hi : items = ts0.map φ)
    (ho : okOwn s0 vs = true) (hl : ts0.length ≤ sizeLine)
    (hs : ∀ x ∈ ts0, ∃ s1, g (φ x) (wipeD s0 vs) = some s1 ∧ ∃ s2, t s1 = .ok (c x) s2 ∧ wipeD s2 vs = wipeD s0 vs ∧ (c x = true → ∃ s3, e s2 = .ok (f x) s3 ∧ wipeD s3 vs = wipeD s0 vs)) : lcRun vs g t e items s0 = .ok (.l ((ts0.filter c).map f)) s0 := by
  refine Sat.eq (sat_map φ c f hi ho hl (fun x hx => ?_) ⟨rfl, rfl⟩)
  obtain ⟨s1, e1, s2, e2, hw, h3⟩ := hs x hx
  refine ⟨s1, e1, ?_⟩
  rw [e2]
  refine ⟨rfl, hw, fun hc => ?_⟩
  obtain ⟨s3, e3, hw3⟩ := h3 hc
  rw [e3]
  exact ⟨rfl, hw3⟩
@[simp] theorem slice_tm (x : P3 × Int) : sliceD (tmD x) none (some 3) = some (pD x.1) := rfl
@[simp] theorem ix_tm3 (x : P3 × Int) : ixD (tmD x) (.int 3) = some (.int x.2) := rfl
@[simp] theorem ix_p0 (p : P3) : ixD (pD p) (.int 0) = some (.int p.1) := rfl
@[simp] theorem ix_p1 (p : P3) : ixD (pD p) (.int 1) = some (.int p.2.1) := rfl
@[simp] theorem ix_p2 (p : P3) : ixD (pD p) (.int 2) = some (.int p.2.2) := rfl
@[simp] theorem sum_pD (p : P3) : sumD (pD p) = some (.int (p.1 + p.2.1 + p.2.2)) := by
  have : p.1 + (p.2.1 + p.2.2) = p.1 + p.2.1 + p.2.2 := by omega
  simp [sumD, pD, isLT2, intsD, this]
@[simp] theorem len_pD (p : P3) : lenD (pD p) = some (.int 3) := by
  simp [lenD, pD]
  try decide
/-- the number of a table at powers that it has -/
theorem ix_tbl {t : Tb} (nd : (keys t).Nodup) {x : P3 × Int} (h : x ∈ t) : ixD (.dT (tbl t)) (pD x.1) = some (.int x.2) := by
  have := val_mem nd h
  simp [ixD, getD2, this]
theorem add_tm (p : P3) (n : Int) : addD (pD p) (.tup [.int n]) = some (tmD (p, n)) := by
  have : sizeOk 4 := by decide
  simp [addD, pD, tmD, this]
end DL
namespace DL
open PySem PySem.Spec PyProof.Rows L2 PM
/-- a slot that a comprehension may take for its own -/
def Slot.pl : Slot → Bool
  | .no => true
  | .sh _ => true
  | _ => false
@[simp] theorem pl_no : Slot.pl .no = true := rfl
@[simp] theorem pl_sh (d : D) : Slot.pl (.sh d) = true := rfl
theorem pl_pin {s : Slot} (h : s.pl = true) : s.pin = false := by
  cases s with
  | ow io x => cases h
  | lk => cases h
  | _ => rfl
theorem okOwn_pl {s : DS} {vs : List Nat} (h : ∀ v ∈ vs, ∃ x, s[v]? = some x ∧ x.pl = true) : okOwn s vs = true := by
  unfold okOwn
  refine List.all_eq_true.mpr fun v hv => ?_
  obtain ⟨x, e, hx⟩ := h v hv
  rw [e]
  cases x with
  | ow io x => cases hx
  | lk => cases hx
  | _ => rfl
theorem for_dict {i : Nat} {g : D → DS → Option DS} {b : DS → Res Fl} {s : DS} {t : Tb} {p : Fl → DS → Prop} (h : s[i]? = some (.sh (.dT (tbl t)))) (k : Sat (forM g b ((keys t).map pD) s) p) : Sat (sForS i g b s) p := by
  unfold sForS walkS
  rw [h]
  show Sat (Res.noex _) _
  rw [sat_noex, tbl_keys]
  exact k
theorem walk_dict {α : Type} {i : Nat} {run : List D → DS → Res α} {s : DS} {t : Tb} {a : α} {s' : DS} (h : s[i]? = some (.sh (.dT (tbl t)))) (k : run ((keys t).map pD) s = .ok a s') : walkS i run s = .ok a s' := by
  unfold walkS
  rw [h]
  show Res.noex _ = _
  rw [tbl_keys, k]
  rfl
theorem getM_tbl (t : Tb) (p : P3) : getM (.dT (tbl t)) (pD p) (.int 0) = some (.int (cf t p)) := by
  unfold cf
  cases h : val t p <;> simp [getM, getD2, h]
theorem getM_tup (t : Tb) (a b c : Int) : getM (.dT (tbl t)) (.tup [.int a, .int b, .int c]) (.int 0) = some (.int (cf t (a, b, c))) := getM_tbl t (a, b, c)
/-- the shape of a test that keeps what isn't nought -/
theorem thin_pr (t : Tb) : (t.filter fun x => decide (x.2 ≠ 0)).map prD = (thin t).map prD := rfl
end DL
namespace DL
open PySem PySem.Spec PyProof.Rows L2 PM
theorem lc_m {τ : Type} (φ f : τ → D) {vs : List Nat} {g : D → DS → Option DS} {e : DS → Res D} {ts0 : List τ} {items : List D} {s0 : DS} (hi : items = ts0.map φ)
    (ho : okOwn s0 vs = true) (hl : ts0.length ≤ sizeLine)
    (hs : ∀ x ∈ ts0, ∃ s1, g (φ x) (wipeD s0 vs) = some s1 ∧ e s1 = .ok (f x) s1 ∧ wipeD s1 vs = wipeD s0 vs) : lcRun vs g tYesD e items s0 = .ok (.l (ts0.map f)) s0 :=
  lc_map φ f hi ho hl fun x hx => by
    obtain ⟨s1, e1, e2, e3⟩ := hs x hx
    exact ⟨s1, e1, s1, e2, e3⟩
theorem lc_f {τ : Type} (φ : τ → D) (c : τ → Bool) (f : τ → D) {vs : List Nat} {g : D → DS → Option DS} {t : DS → Res Bool} {e : DS → Res D} {ts0 : List τ} {items : List D} {s0 : DS} (hi : items = ts0.map φ)
    (ho : okOwn s0 vs = true) (hl : ts0.length ≤ sizeLine)
    (hs : ∀ x ∈ ts0, ∃ s1, g (φ x) (wipeD s0 vs) = some s1 ∧ t s1 = .ok (c x) s1 ∧ wipeD s1 vs = wipeD s0 vs ∧ (c x = true → e s1 = .ok (f x) s1)) : lcRun vs g t e items s0 = .ok (.l ((ts0.filter c).map f)) s0 :=
  lc_fil φ c f hi ho hl fun x hx => by
    obtain ⟨s1, e1, e2, e3, e4⟩ := hs x hx
    exact ⟨s1, e1, s1, e2, e3, fun h => ⟨s1, e4 h, e3⟩⟩
end DL
namespace DL
open PySem PySem.Spec PyProof.Rows L2 PM
theorem sat_ret {f : DS → Res D} {s s' : DS} {d : D} {p : Fl → DS → Prop} (h : f s = .ok d s') (k : p (.rt d) s') : Sat (sRet f s) p := by
  show Sat ((f s).bind _) p
  rw [h]
  exact k
end DL
namespace DL
open PySem PySem.Spec PyProof.Rows L2 PM
theorem forM_cons {g : D → DS → Option DS} {body : DS → Res Fl} {d : D} {ds : List D} {s s1 s2 : DS} (h1 : g d s = some s1) (h2 : body s1 = .ok .nx s2) : DL.forM g body (d :: ds) s = DL.forM g body ds s2 := by
  conv => lhs; unfold DL.forM
  rw [h1]
  dsimp only
  rw [h2]
  rfl
theorem le_size {n : Nat} (h : n ≤ 1000) : n ≤ sizeLine := by unfold sizeLine; omega
@[simp] theorem size_3 : 3 ≤ sizeLine := le_size (by decide)
@[simp] theorem size_2 : 2 ≤ sizeLine := le_size (by decide)
@[simp] theorem size_1 : 1 ≤ sizeLine := le_size (by decide)
@[simp] theorem size_4 : 4 ≤ sizeLine := le_size (by decide)
end DL
namespace DL
open PySem PySem.Spec PyProof.Rows L2 PM
theorem for_pD {i : Nat} {g : D → DS → Option DS} {b : DS → Res Fl} {s : DS} {p : P3} (h : s[i]? = some (.sh (pD p))) : sForS i g b s = DL.forM g b [.int p.1, .int p.2.1, .int p.2.2] s := by
  unfold sForS walkS
  rw [h]
  rfl
end DL
namespace DL
open PySem PySem.Spec PyProof.Rows L2 PM
theorem set_of {i : Nat} {f : DS → Res D} {s s1 s2 : DS} {d : D} (h : f s = .ok d s1) (k : setSh i d s1 = some s2) : sSet i f s = .ok .nx s2 := by
  show (f s).bind _ = _
  rw [h]
  show (match setSh i d s1 with | some s => _ | none => _) = _
  rw [k]
theorem setO_of {i : Nat} {f : DS → Res Own} {s s1 s2 : DS} {d : Own} (h : f s = .ok d s1) (k : setOw i d s1 = some s2) : sSetO i f s = .ok .nx s2 := by
  show (f s).bind _ = _
  rw [h]
  show (match setOw i d s1 with | some s => _ | none => _) = _
  rw [k]
end DL

set_option autoImplicit true
/-! D-layer, part za: x != y, both of a class with its own ==. -/
namespace DL
open PySem PySem.Spec PyProof.Rows L2
section
variable {prog : Program} {w : World} {A : Around} {E : Value → Shared → Prop} {s : Shared} {K : PySem.W.Frag} {x C L f : Addr} {h₀ : Heap} {m : Str → Option Value} {ox : Obj} {od : Option Obj} {b tb : Value}
theorem ne_body {Q : Fin → Shared → Prop} (hu : A.units < cLine) (X : K.In s.heap) (I : PySem.W.InstAt s.heap x ox C od) (hs : PySem.W.findIn K (.ref C) "__eq__" = some (some (.ref f))) (hf : PySem.W.isFn K (.ref f) = true)
    (h : wpAny (model prog w) A (call (.ref f) [.ref x, b]) (fun v s' => ∃ r, v = .bool r ∧ Q (.done (.ret (.bool (!r)))) s') E s) : wpAny (model prog w) A (Builtin.«object.__ne__» ⟨[.ref x, b], []⟩) Q E s := by
  unfold Builtin.«object.__ne__»
  repeat (first
    | with_reducible refine wpAny_cRoomFor hu ?_
    | (refine wpAny_bind (m := callSpecialIfBound? (.ref x) (Str.ofString "__eq__") [b])
        (PySem.W.ifBound_K X I hs hf (wpAny_mono h (fun r s' hr => by
          obtain ⟨c, rfl, hq⟩ := hr
          repeat (first | exact hq | exact wpAny_pure hq | exact wpAny_truthy_bool hq | (refine wpAny_bind (m := truthy (.bool _)) (wpAny_truthy_bool ?_)) | wp_step)) fun _ _ e => e)))
    | wp_step)
theorem ne_try {Q : Option Value → Shared → Prop} (hu : A.units + 1 < cLine) (X : K.In s.heap) (I : PySem.W.InstAt s.heap x ox C od) (hsn : PySem.W.findIn K (.ref C) "__ne__" = some (some (.builtin "object.__ne__"))) (hob : PySem.W.subIn K (.ref C) (.type "object") = some true)
    (hs : PySem.W.findIn K (.ref C) "__eq__" = some (some (.ref f))) (hf : PySem.W.isFn K (.ref f) = true)
    (h : wpAny (model prog w) A.in1 (call (.ref f) [.ref x, b]) (fun v s' => ∃ r, v = .bool r ∧ Q (some (.bool (!r))) s') E s) : wpAny (model prog w) A (tryCompare (.ref x) "__ne__" b) Q E s := by
  have hcall : wpAny (model prog w) A (call (.builtin "object.__ne__") (.ref x :: [b])) (fun v s' => ∃ r, v = .bool r ∧ Q (some (.bool r)) s') E s := by
    refine wpAny_call (codeAny_call_builtin PySem.F.cmp_object.ne.plain PySem.F.cmpEntry_ne ?_)
    refine PySem.W.check_slot PySem.F.cmpKind_ne PySem.F.cmpSplit_ne (I.type.andThen (PySem.W.looks_subIn X hob)) (PySem.F.cmpArgs_ne _ _) ?_
    refine ne_body (A := A.in1) hu X I hs hf (wpAny_mono h (fun v s' hv => ?_) fun _ _ e => e)
    obtain ⟨r, rfl, hq⟩ := hv
    exact ⟨r, rfl, !r, rfl, hq⟩
  unfold tryCompare
  have fin : wpAny (model prog w) A (call (.builtin "object.__ne__") ([.ref x] ++ [b]) >>= fun v => pure (some v)) (fun o s' => ∃ r, o = some (.bool r) ∧ Q (some (.bool r)) s') E s :=
    wpAny_bind (wpAny_mono hcall (fun v s' h' => by
      obtain ⟨r, rfl, hq⟩ := h'
      exact wpAny_pure ⟨r, rfl, hq⟩) fun _ _ h' => h')
  refine wpAny_bind (wpAny_mono (Q := fun o s' => ∃ r, o = some (.bool r) ∧ Q (some (.bool r)) s') ?_ (fun o s' ho => ?_) fun _ _ e => e)
  · simp only [callSpecialIfBound?, bindSpecialIfBound?]
    refine wpAny_holding (wpAny_bind (wpAny_bind (wpAny_bind (I.type.here ((PySem.W.looks_findIn X hsn).here ?_)))))
    simp only [PySem.F.cmp_object.ne.bind]
    refine wpAny_bind (wpAny_askSetting (wpAny_ite ?_))
    split
    · exact wpAny_bind (wpAny_pure (wpAny_pure fin))
    · exact wpAny_tryCatch (wpAny_bind (wpAny_pure (wpAny_pure fin)))
  · obtain ⟨r, rfl, hq⟩ := ho
    exact wpAny_pure hq
theorem ne_K {Q : Value → Shared → Prop} (hu : A.units + 1 < cLine) (F : Fr h₀ L s.heap m) (X₀ : K.In h₀) (I : PySem.W.InstAt s.heap x ox C od) (hb : PySem.W.Looks (model prog w) s.heap (typeOf b) tb) (hn : PySem.W.notFirst K C tb = true)
    (hsn : PySem.W.findIn K (.ref C) "__ne__" = some (some (.builtin "object.__ne__"))) (hob : PySem.W.subIn K (.ref C) (.type "object") = some true)
    (hs : PySem.W.findIn K (.ref C) "__eq__" = some (some (.ref f))) (hf : PySem.W.isFn K (.ref f) = true)
    (h : wpAny (model prog w) A.in1 (call (.ref f) [.ref x, b]) (fun v s' => ∃ r, v = .bool r ∧ Q (.bool (!r)) s') E s) : wpAny (model prog w) A (richCompare .NotEq (.ref x) b) Q E s := by
  have X := X₀.keeps F.keep
  have one : wpAny (model prog w) A (tryCompare (.ref x) (cmpInfo .NotEq).2.1 b) (fun r s' => ∃ v, r = some v ∧ Q v s') E s := by
    show wpAny (model prog w) A (tryCompare (.ref x) "__ne__" b) _ E s
    refine ne_try hu X I hsn hob hs hf (wpAny_mono h (fun v s' hv => ?_) fun _ _ e => e)
    obtain ⟨r, rfl, hq⟩ := hv
    exact ⟨r, rfl, _, rfl, hq⟩
  unfold richCompare
  simp only [oneThing_ref]
  refine wpAny_holding (wpAny_bind (wpAny_cRoomFor (Nat.lt_of_succ_lt hu) ?_))
  refine wpAny_bind (I.type.here (wpAny_bind (hb.here ?_)))
  split
  · rename_i q
    have e : PySem.W.subIn K tb (.ref C) = some false := by
      rcases Bool.or_eq_true_iff.mp hn with e | e
      · rw [beq_iff_eq.mp e] at q; simp at q
      · exact beq_iff_eq.mp e
    refine wpAny_bind ((PySem.W.looks_subIn X e).here ?_)
    simp only [Bool.false_eq_true, if_false]
    refine wpAny_bind (wpAny_mono one (fun r s' z => ?_) fun _ _ e => e)
    obtain ⟨v, rfl, hq⟩ := z
    exact wpAny_pure hq
  · refine wpAny_bind (wpAny_pure ?_)
    simp only [Bool.false_eq_true, if_false]
    refine wpAny_bind (wpAny_mono one (fun r s' z => ?_) fun _ _ e => e)
    obtain ⟨v, rfl, hq⟩ := z
    exact wpAny_pure hq
end
def neO (c : Str) (m : DS → Res D) (f g : DS → Res Ar) : DS → Res D := fun s => (f s).bind fun a s => (g s).bind fun b s => match a.d s, b.d s with
  | some (.obj c1 fs), some (.obj c2 gs) => if c1 = c ∧ c2 = c then (match callM m [a, b] s with
    | .ok (.bl r) s => .ok (.bl (!r)) s
    | _ => .bad) else .bad
  | _, _ => .bad
@[simp] theorem neO_ap (c : Str) (m : DS → Res D) (f g : DS → Res Ar) (s : DS) : neO c m f g s = (f s).bind fun a s => (g s).bind fun b s => match a.d s, b.d s with
  | some (.obj c1 fs), some (.obj c2 gs) => if c1 = c ∧ c2 = c then (match callM m [a, b] s with
    | .ok (.bl r) s => .ok (.bl (!r)) s
    | _ => .bad) else .bad
  | _, _ => .bad := rfl
def rNeO (K : PySem.W.Frag) (mg : Str → Option Value) (C : Addr) (m : DS → Res D) : R2 := fun x y H Q => ∃ a b dx dy fs gs, x = .ref a ∧ y = .ref b ∧ H a = some (.ins C dx fs) ∧ H b = some (.ins C dy gs) ∧ spD K mg 2 m [x, y] H (fun v H' => ∃ r, v = .bl r ∧ Q (.bl (!r)) H') (fun _ _ _ => False)
structure NeO (X : Cx) (j : Nat) (c : Str) (m : DS → Res D) : Prop where
  ex : ∃ C f fd ps, X.mg c = some (.ref C) ∧ PySem.W.findIn X.K (.ref C) "__eq__" = some (some (.ref f)) ∧ PySem.W.isFn X.K (.ref f) = true ∧ ps.length = 2 ∧ FnOk X.prog X.w X.K X.mg X.base (L2.CX X.prog X.w) j f fd ps (spD X.K X.mg ps.length m) ∧ Binds X.K fd ps [] ∧ PySem.W.findIn X.K (.ref C) "__ne__" = some (some (.builtin "object.__ne__")) ∧ PySem.W.subIn X.K (.ref C) (.type "object") = some true
section
variable {X : Cx} {W : WX} {k j : Nat} {pos : Pos} {a b : Expr} {f g : DS → Res Ar} {c : Str} {m : DS → Res D}
theorem run_fnS1 {pins : List (Addr × Obj)} {σ : St} {H : Hp} {s : Shared} {Q : VK} {E : St → XK} {us : List Value} {vs : List V} {k : Nat} {f : Addr} {fd : FuncData} {ps : List Str} {sp : Sp} {CX : CXT} (F : FnOk X.prog X.w X.K X.mg X.base CX k f fd ps sp) (hr : Room (k + 1) X.A) (hb : Binds X.K fd ps []) (hx : PassesAt CX X σ (E σ))
    (I : Inv X pins σ H s) (r : Vals vs us) (h : sp vs H Q (E σ)) : wpAny (model X.prog X.w) X.A.in1 (call (.ref f) us) (EP X pins σ Q) X.xe s := by
  have hl : us.length = ps.length := by rw [← r.length]; exact F.len _ _ _ _ h
  have b := hb s us I.kIn (by rw [List.append_nil]; exact hl)
  rw [List.append_nil] at b
  refine wpAny_call (codeAny_mono (F.run X.A.in1 X.stack s H ⟨us, []⟩ us vs Q (E σ) hr.in1 I.env0.in1 b r h) fun r s' hq => ?_)
  cases r with
  | error e => exact hx pins H s e s' I hq
  | ok fl =>
    cases fl with
    | ret u => exact I.after hq
    | next => exact False.elim hq
    | brk => exact False.elim hq
    | cont => exact False.elim hq
theorem op_neO {C fa : Addr} {fd : FuncData} {ps : List Str} (hr : Room (j + 1) X.A) (hs : PySem.W.findIn X.K (.ref C) "__eq__" = some (some (.ref fa))) (hf : PySem.W.isFn X.K (.ref fa) = true) (h2 : ps.length = 2)
    (F : FnOk X.prog X.w X.K X.mg X.base (L2.CX X.prog X.w) j fa fd ps (spD X.K X.mg ps.length m)) (hb : Binds X.K fd ps []) (hsn : PySem.W.findIn X.K (.ref C) "__ne__" = some (some (.builtin "object.__ne__"))) (hob : PySem.W.subIn X.K (.ref C) (.type "object") = some true) : OpR X (compareOp .NotEq) (rNeO X.K X.mg C m) := by
  intro pins s σ H x y v u Q I rx ry h
  obtain ⟨a, b, dx, dy, fs, gs, rfl, rfl, ha, hb', h⟩ := h
  cases rx; cases ry
  obtain ⟨mA, J, _⟩ := ins_get I.hok ha
  obtain ⟨mB, J', _⟩ := ins_get I.hok hb'
  obtain ⟨od, J, _⟩ := J.look
  obtain ⟨od', J', _⟩ := J'.look
  obtain ⟨mm, hF⟩ := I.fr
  show wpAny (model X.prog X.w) X.A (richCompare .NotEq (.ref a) (.ref b)) (EP X pins σ Q) X.xe s
  refine ne_K (tb := .ref C) (by have := hr.un; omega) hF I.ok.mod.kin J J'.type (by simp [PySem.W.notFirst]) hsn hob hs hf ?_
  rw [← h2] at h
  refine wpAny_mono (run_fnS1 (us := [.ref a, .ref b]) (vs := [.ref a, .ref b]) (E := WE WF) (σ := σ) F hr hb (passAt takes0 σ) I (.cons rfl (.cons rfl .nil)) h) (fun r s' q => ?_) fun _ _ e => e
  obtain ⟨z, H', I', rz, r', ez, q'⟩ := q
  subst ez
  cases rz
  exact ⟨r', rfl, .bl (!r'), H', I', rfl, q'⟩
theorem neO_read {C : Addr} (hC : X.mg c = some (.ref C)) {σ : St} {H : Hp} {Q : VK} (h : tD X.K X.mg W (neO c m f g) σ H Q) : tOp (rNeO X.K X.mg C m) (tD1 X.K X.mg W f) (tD1 X.K X.mg W g) σ H Q := by
  obtain ⟨B, F, s, rl, p0⟩ := h
  refine ⟨B, F, s, rl, p0.bind.mono (fun a s1 p1 v F1 H1 r1 sm1 q1 => ⟨B, F1, s1, r1, p1.bind.mono (fun b s2 p w F2 H2 r2 sm2 q2 => ?_) fun x s h => h.mono sm1⟩) fun x s h => h⟩
  split at p
  · rename_i c1 fs c2 gs e1 e2
    split at p
    · rename_i hc
      obtain ⟨rfl, rfl⟩ := hc
      have q1' := q1.keeps sm2
      obtain ⟨pa, Ca, dx, ws, rfl, hm1, h1, _⟩ := q1'.brep r2 e1
      obtain ⟨pb, Cb, dy, us, rfl, hm2, h2, _⟩ := q2.brep r2 e2
      rw [hC] at hm1 hm2; cases hm1; cases hm2
      refine ⟨pa, pb, dx, dy, ws, us, rfl, rfl, h1, h2, ?_⟩
      refine call_read (W := WF) (F0 := F2) (as := [a, b]) (n := 2) r2 ⟨_, _, rfl, q1', _, _, rfl, q2, rfl⟩ rfl (Same.refl _) ?_
      revert p
      cases callM m [a, b] s2 with
      | bad => exact fun p => p.elim
      | ex x s => exact fun p => p.elim
      | ok d s3 =>
        cases d with
        | bl r => exact fun p v F' H' r' sm q => ⟨r, Rep.bl_ q, p _ F' H' r' ((sm1.trans sm2).trans sm) Rep.bl⟩
        | _ => exact fun p => p.elim
    · exact p.elim
  · exact p.elim
theorem de_neO (C : Ctx k X W) (d : NeO X j c m) (hj : j + 1 ≤ k) (ha : DA1 X W a f) (hb : DA1 X W b g) : DE X W (.Compare a [.NotEq] [b] pos) (neO c m f g) := by
  obtain ⟨Ca, fa, fd, ps, hC, hs, hf, h2, F, hbd, hsn, hob⟩ := d.ex
  exact PE.imp (pe_cmpR (op_neO (C.room.mono hj) hs hf h2 F hbd hsn hob) ha hb (nomark _)) fun _ _ _ h => neO_read hC h
theorem dt_neO (C : Ctx k X W) (d : NeO X j c m) (hj : j + 1 ≤ k) (ha : DA1 X W a f) (hb : DA1 X W b g) : DT X W (.Compare a [.NotEq] [b] pos) (tB (neO c m f g)) := by
  obtain ⟨Ca, fa, fd, ps, hC, hs, hf, h2, F, hbd, hsn, hob⟩ := d.ex
  exact PT.imp (pt_cmpR (op_neO (C.room.mono hj) hs hf h2 F hbd hsn hob) ha hb (nomark _)) fun _ _ _ h => neO_read hC (tb_of h)
end
end DL

set_option autoImplicit true
/-! D-layer, part zb: dict(d), keys that are threes of small numbers. -/
namespace DL
open PySem PySem.Spec PyProof.Rows L2
open Sem (wp)
open SeqAt
def safeK : List (List Key) := [[.inl 0, .inl 0, .inl 0], [.inl 1, .inl 0, .inl 0], [.inl 0, .inl 1, .inl 0], [.inl 0, .inl 0, .inl 1], [.inl 2, .inl 0, .inl 0], [.inl 1, .inl 1, .inl 0], [.inl 1, .inl 0, .inl 1], [.inl 0, .inl 2, .inl 0], [.inl 0, .inl 1, .inl 1], [.inl 0, .inl 0, .inl 2], [.inl 3, .inl 0, .inl 0], [.inl 2, .inl 1, .inl 0], [.inl 2, .inl 0, .inl 1], [.inl 1, .inl 2, .inl 0], [.inl 1, .inl 1, .inl 1], [.inl 1, .inl 0, .inl 2], [.inl 0, .inl 3, .inl 0], [.inl 0, .inl 2, .inl 1], [.inl 0, .inl 1, .inl 2], [.inl 0, .inl 0, .inl 3]]
def keyH0 : Key → Int
  | .inl k => hashInt k
  | .inr _ => 0
def hash0 (ks : List Key) : Int := reduceHash (Builtin.Tuple.tupleHashOf (ks.map keyH0))
theorem hash0_inj : ∀ a ∈ safeK, ∀ b ∈ safeK, hash0 a = hash0 b → a = b := by decide +kernel
theorem safe_inl : ∀ a ∈ safeK, ∀ k ∈ a, ∃ i : Int, k = Sum.inl i := by
  intro a ha k hk
  have : (safeK.all fun a => a.all fun k => k.isLeft) = true := by decide
  have h := List.all_eq_true.mp (List.all_eq_true.mp this a ha) k hk
  cases k with
  | inl i => exact ⟨i, rfl⟩
  | inr x => cases h
theorem hash_safe {P : Program} {w : World} {ks : List Key} (h : ks ∈ safeK) : (tupleKind (mixKind P w)).hash ks = hash0 ks := by
  show reduceHash (Builtin.Tuple.tupleHashOf (ks.map (mixKind P w).hash)) = _
  unfold hash0
  congr 2
  apply List.map_congr_left
  intro k hk
  obtain ⟨i, rfl⟩ := safe_inl ks h k hk
  rfl
section
variable {prog : Program} {w : World} {A : Around} {E : Value → Shared → Prop} {s : Shared}
theorem call_dictC {d : Addr} {xs : List (List Key × Addr × Value)} {Q : Value → Shared → Prop} (hu : A.units + 64 < cLine) (hdS : (d == sysModules) = false) (hm : s.heap.DictOfH (tupleKind (mixKind prog w)) d xs) (hsz : xs.length ≤ sizeLine) (hap : (xs.map fun x => (tupleKind (mixKind prog w)).hash x.1).Nodup)
    (h : ∀ h', h'.DictOfH (tupleKind (mixKind prog w)) s.heap.objs.size xs → (∀ b o, s.heap.get? b = some o → h'.get? b = some o) → Q (.ref s.heap.objs.size) { s with heap := h' }) : wpAny (model prog w) A (call (.type "dict") [.ref d]) Q E s := by
  refine callType_codes (Q₁ := fun obj s₁ => obj = .ref s.heap.objs.size ∧ s₁ = { s with heap := s.heap.push { cls := .type "dict", data := .dict #[] } }) F.kt_called_dict (F.kt_typeCall_dict_1 _) F.entry_dict_init (kt_code_dict_new _ ⟨rfl, rfl⟩) ?_
  rintro obj s₁ ⟨rfl, rfl⟩
  have hT : Shared.TypeIs { s with heap := s.heap.push { cls := .type "dict", data := .dict #[] } } (.ref s.heap.objs.size) "dict" := ⟨_, Heap.get?_push_size _ rfl, rfl⟩
  refine ⟨hT, F.args_dict_init_2 _ _, ?_⟩
  unfold Builtin.«dict.__init__»
  refine wpAny_bind ?_
  unfold Builtin.Dict.selfAndRest
  refine wpAny_bind (wpAny_notOrdered_dict hT ?_)
  show wpAny _ _ (pure (s.heap.objs.size, [Value.ref d])) _ _ _
  refine wpAny_pure ?_
  have keep : ∀ b o, s.heap.get? b = some o → (s.heap.push { cls := .type "dict", data := .dict #[] }).get? b = some o := fun b o e => Heap.get?_push_of_some _ e
  obtain ⟨od, es, ep, g1, g2, g3, g4, g5, g6⟩ := hm
  have is2 : ∀ h' : Heap, (∀ b o, s.heap.get? b = some o → h'.get? b = some o) → ∀ x ∈ xs, (tupleKind (mixKind prog w)).is h' x.1 x.2.1 := fun h' hk x hx => by
    obtain ⟨o, its, n, k1, k2⟩ := g5 x hx
    exact ⟨o, its, n, hk _ _ k1, k2⟩
  have hd2 : (s.heap.push { cls := .type "dict", data := .dict #[] }).DictOfH (tupleKind (mixKind prog w)) d xs := ⟨od, es, ep, keep _ _ g1, g2, g3, g4, is2 _ keep, g6⟩
  have ne : s.heap.objs.size ≠ d := fun z => Nat.lt_irrefl _ (z ▸ Heap.lt_size g1)
  refine updateFrom_dictH (A := A.in1) (knd := tupleKind (mixKind prog w)) (kvs := []) (more := xs) .none (show A.units + 1 + 1 < cLine by omega) ne hdS (Heap.DictOfH.new s.heap) hd2 (.inr ⟨fun x hx => ?_, hap⟩) (by simpa using hsz) fun h' hd' ho' hs' => ?_
  · obtain ⟨o, its, n, k1, k2, _⟩ := is2 _ keep x hx
    exact ⟨o, k1, k2⟩
  · refine ⟨rfl, h h' ?_ fun b o e => ?_⟩
    · rw [storedAllH_nil_of_nodup xs g6] at hd'
      exact hd'
    · rw [hs'.2 b (fun z => Nat.lt_irrefl _ (z ▸ Heap.lt_size e))]
      exact keep b o e
end
section
variable {X : Cx}
theorem nodup_map_on {α β : Type} {f : α → β} : ∀ {l : List α}, l.Nodup → (∀ a ∈ l, ∀ b ∈ l, f a = f b → a = b) → (l.map f).Nodup
  | [], _, _ => by simp
  | a :: l, nd, h => by
    rw [List.nodup_cons] at nd
    rw [List.map_cons, List.nodup_cons]
    refine ⟨fun hm => ?_, nodup_map_on nd.2 fun x hx y hy => h x (by simp [hx]) y (by simp [hy])⟩
    obtain ⟨b, hb, e⟩ := List.mem_map.mp hm
    have := h b (by simp [hb]) a (by simp) e
    exact nd.1 (this ▸ hb)
theorem kt_keys {H : Hp} {ws : List (List Key × V)} {ps : List (List Key × Addr × Value)} (h : KT H ws ps) : ps.map (·.1) = ws.map (·.1) := by
  induction h with
  | nil => rfl
  | @cons p q' l1 l2 h t ih => rw [List.map_cons, List.map_cons, ih, h.1]
theorem rept_keys {K : PySem.W.Frag} {mg : Str → Option Value} {F : Hp} : ∀ {kvs : List (List Key × D)} {ws : List (List Key × V)}, RepT K mg F kvs ws → ws.map (·.1) = kvs.map (·.1)
  | [], ws, h => by unfold RepT at h; subst h; rfl
  | (k, d) :: r, ws, h => by
    unfold RepT at h
    obtain ⟨v, t, rfl, _, q⟩ := h
    rw [List.map_cons, List.map_cons, rept_keys q]
/-- the keys are small threes, each once -/
def safeT (kvs : List (List Key × D)) : Bool := (kvs.all fun p => safeK.any fun a => decide (a = p.1)) && decide (kvs.map (·.1)).Nodup
def dictX : D → Option Own
  | .dT kvs => if safeT kvs = true then some (.T kvs) else none
  | d => dictT d
def rDictC (K : PySem.W.Frag) (mg : Str → Option Value) : List V → Hp → VK → Prop := fun xs H Q => ∃ (F : Hp) (a : Addr) (kvs : List (List Key × D)) (ws : List (List Key × V)), xs = [V.ref a] ∧ Same F H ∧ Rd H a (.dT ws) ∧ RepT K mg F kvs ws ∧ safeT kvs = true ∧
  ∀ p, H p = none → Q (.ref p) (upd H p (.dT ws))
theorem call_dictD (hc : X.calm = true) (hu : X.A.units + 64 < cLine) : CallR X (.type "dict") (rDictC X.K X.mg) := by
  intro pins s σ H xs us Q I r h
  obtain ⟨F, a, kvs, ws, rfl, sm, hd, rt, hs, q⟩ := h
  obtain ⟨u, rfl, rx⟩ := vals1 r
  cases rx
  obtain ⟨hz, hsys, ps, kt, hdo⟩ := dt_rd I.hok hd
  have ek : ps.map (·.1) = kvs.map (·.1) := (kt_keys kt).trans (rept_keys rt)
  unfold safeT at hs
  rw [Bool.and_eq_true, decide_eq_true_iff, List.all_eq_true] at hs
  have mem : ∀ x ∈ ps, x.1 ∈ safeK := fun x hx => by
    have h1 : x.1 ∈ ps.map (·.1) := List.mem_map_of_mem hx
    rw [ek] at h1
    obtain ⟨p, hp, e⟩ := List.mem_map.mp h1
    have := hs.1 p hp
    rw [e] at this
    obtain ⟨a, ha, e2⟩ := List.any_eq_true.mp this
    rw [← of_decide_eq_true e2]
    exact ha
  have nd : (ps.map (·.1)).Nodup := by rw [ek]; exact hs.2
  have hap : (ps.map fun x => (tupleKind (mixKind X.prog X.w)).hash x.1).Nodup := by
    have e : (ps.map fun x => (tupleKind (mixKind X.prog X.w)).hash x.1) = (ps.map (·.1)).map hash0 := by
      rw [List.map_map]
      exact List.map_congr_left fun x hx => hash_safe (mem x hx)
    rw [e]
    refine nodup_map_on nd fun x hx y hy => ?_
    obtain ⟨p, hp, rfl⟩ := List.mem_map.mp hx
    obtain ⟨p', hp', rfl⟩ := List.mem_map.mp hy
    exact hash0_inj _ (mem p hp) _ (mem p' hp')
  have hlen : ps.length ≤ sizeLine := by
    have := congrArg List.length (kt_keys kt)
    rw [List.length_map, List.length_map] at this
    rw [this]; exact hz
  refine call_dictC hu hsys hdo hlen hap fun h' hd' hk => ?_
  have hm : (s.heap.objs.size == sysModules) = false := beq_eq_false_iff_ne.mpr (Nat.ne_of_gt I.big)
  have hf := I.hok.fresh (Nat.le_refl s.heap.objs.size)
  obtain ⟨o', es, ep, g1, g2, g3, g4, _, g5⟩ := hd'
  refine ⟨.ref s.heap.objs.size, upd H s.heap.objs.size (.dT _), I.laid (fun b ob e => hk b ob e) (Nat.le_refl _) (show ObjOk X.prog X.w _ _ _ (.dT _) from ⟨hz, hm, _, kt.keeps fun b ys e => ?_, o', es, ep, g1, g2, g3, g4, g5⟩), rfl, q _ hf⟩
  rw [upd_ne (ne_of_none e hf)]
  exact e
end
section
variable {K : PySem.W.Frag} {mg : Str → Option Value}
theorem s_dictX : NwS K mg (fun xs H Q => rDictT K mg xs H Q ∨ rDictC K mg xs H Q) (on1 dictX) := by
  intro F H ds vs d Q sm br e k
  obtain ⟨x, v, rfl, rfl, h, e0⟩ := on1_of br e
  unfold dictX at e0
  split at e0
  · rename_i kvs
    split at e0
    · rename_i hs
      cases e0
      obtain ⟨a, ws, rfl, hd, rt⟩ := h
      exact .inr ⟨F, a, kvs, ws, rfl, sm, hd, rt, hs, fun p hp => k p _ F H (.refl _ _) hp ⟨ws, rfl, rt⟩⟩
    · cases e0
  · exact .inl (s_dictT _ _ _ _ _ _ sm br (show on1 dictT [x] = some d from e0) k)
end
section
variable {X : Cx} {W : WX} {k : Nat} {pos p : Pos} {e : Expr} {es : List Expr} {g : DS → Res (List Ar)}
theorem dn_dictX (C : Ctx k X W) (hm : X.mg "dict" = none) (ha : DAs X W (e :: es) g) (hg : Gl X "dict" := by rfl) (he : starEach (e :: es) X.env = (false, eval e X.env) :: starEach es X.env := by rfl) (hpl : (backTo pos (starEach es X.env)).any (·.1) = false := by rfl) : DN X W (.Call (.Name "dict" p) (e :: es) [] pos) (nCall (on1 dictX) g) :=
  dn_callTy ((call_dictT C.calm (by have := C.room.un; omega)).or (call_dictD C.calm (by have := C.room.un; omega))) s_dictX hm (by decide +kernel) ha hg (by decide) (by decide) he hpl
end
end DL
namespace DL
open PySem
theorem no_free {names : List (Str × NameKind)} (h : (names.all fun y => decide (y.2 ≠ .free)) = true) {P : Str × NameKind → Prop} : ∀ y ∈ names, y.2 = .free → P y := fun y hy hf =>
  absurd hf (of_decide_eq_true (List.all_eq_true.mp h y hy))
@[simp] theorem dictX_dT (kvs : List (List L2.Key × D)) : dictX (.dT kvs) = if safeT kvs = true then some (.T kvs) else none := rfl
@[simp] theorem dictX_lst (l : List D) : dictX (.lst l) = dictT (.lst l) := rfl
end DL
namespace DL
open PySem PySem.Spec PyProof.Rows L2 PM
@[simp] theorem eqDB_bl (a b : Bool) : eqDB (.bl a) (.bl b) = some (decide (a = b)) := by
  cases a <;> cases b <;> rfl
theorem eqDB_rows (l : List P3) : eqDB (.lst (l.map pD)) (.lst (l.map pD)) = some true := by
  have h : ∀ l : List P3, ∃ ps, toPys (l.map pD) = some ps ∧ PyData.canLayAll0 ps = true ∧ PyData.depthAll ps ≤ 2 := by
    intro l
    induction l with
    | nil => exact ⟨[], rfl, rfl, by simp [PyData.depthAll]⟩
    | cons x l ih =>
      obtain ⟨ps, e, h1, h2⟩ := ih
      refine ⟨.tuple [.int x.1, .int x.2.1, .int x.2.2] :: ps, ?_, ?_, ?_⟩
      · rw [List.map_cons]
        unfold toPys
        rw [e]
        rfl
      · simp [PyData.canLayAll0, PyData.canLay0, h1]
      · simp [PyData.depthAll, PyData.depth]
        omega
  obtain ⟨ps, e, h1, h2⟩ := h l
  have e2 : toPy (.lst (l.map pD)) = some (.list ps) := by
    unfold toPy; rw [e]; rfl
  have hs : SeqAt.shaped (.list ps) = true := by
    simp [SeqAt.shaped, PyData.canLay0, PyData.depth, h1]
    omega
  unfold eqDB
  rw [e2]
  simp [hs, SeqAt.eqv_refl (.list ps) (by simp [PyData.canLay0, h1])]
end DL

set_option autoImplicit true
/-! D-layer, part ga: defs whose runs lean on what is under way. -/
namespace DL
open PySem PySem.Spec PyProof.Rows L2
/-- what is under way is the text of locked things -/
def G0 (g : Option (List Code)) (H : Hp) : Prop := ∃ gs, g = some gs ∧ ∀ id v rest kw, Code.builtin id ⟨v :: rest, kw⟩ ∈ gs → ∃ b o u, v = .ref b ∧ H b = some (.frz o u)
/-- nothing is under way -/
abbrev N0 (g : Option (List Code)) (_ : Hp) : Prop := g = some []
theorem g0_top (H : Hp) : G0 (some []) H := ⟨[], rfl, fun _ _ _ _ h => nomatch h⟩
theorem g0_of {g : Option (List Code)} (h : g = some []) (H : Hp) : G0 g H := by rw [h]; exact g0_top H
theorem G0.mono {g : Option (List Code)} {H H' : Hp} (h : G0 g H) (k : ∀ b o u, H b = some (.frz o u) → H' b = some (.frz o u)) : G0 g H' := by
  obtain ⟨gs, e, q⟩ := h
  exact ⟨gs, e, fun id v rest kw hm => let ⟨b, o, u, e1, e2⟩ := q id v rest kw hm; ⟨b, o, u, e1, k b o u e2⟩⟩
theorem G0.at {X : Cx} {pins : List (Addr × Obj)} {σ : St} {H : Hp} {s : Shared} {g : Option (List Code)} (h : G0 g X.H_0) (I : Inv X pins σ H s) : G0 g H := h.mono I.base.frzs
theorem G0.clear {g : Option (List Code)} {H : Hp} (h : G0 g H) : ∃ gs, g = some gs ∧ ∀ b xs, H b = some (.tup xs) → Clear gs b := by
  obtain ⟨gs, e, q⟩ := h
  refine ⟨gs, e, fun b xs hb id v rest kw hm z => ?_⟩
  obtain ⟨b2, o, u, e1, e2⟩ := q id v rest kw hm
  rw [e1] at z
  cases z
  rw [hb] at e2
  cases e2
/-- as FnOk, where it is known what is under way -/
structure FnG (γ : Option (List Code) → Hp → Prop) (P : Program) (w : World) (K : PySem.W.Frag) (mg : Str → Option Value) (base : Heap) (CX : CXT) (k : Nat) (f : Addr) (fd : FuncData) (ps : List Str) (sp : Sp) : Prop where
  len : ∀ vs H Q E, sp vs H Q E → vs.length = ps.length
  run : ∀ (A : Around) (outer : List Env) (s : Shared) (H : Hp) (args : Args) (us : List Value) (vs : List V) (Q : VK) (E : XK), γ A.guards H → Room k A → Env0 P w K mg base A outer s H → BindsTo s fd args (ps.zip us) → Vals vs us → sp vs H Q E →
    codeAny (model P w) A (.call (.ref f) args) (CR CX outer P w H s Q E) s
theorem FnG.of {γ : Option (List Code) → Hp → Prop} {P : Program} {w : World} {K : PySem.W.Frag} {mg : Str → Option Value} {base : Heap} {CX : CXT} {k : Nat} {f : Addr} {fd : FuncData} {ps : List Str} {sp : Sp} (F : FnOk P w K mg base CX k f fd ps sp) : FnG γ P w K mg base CX k f fd ps sp :=
  ⟨F.len, fun A outer s H args us vs Q E _ => F.run A outer s H args us vs Q E⟩
section
variable {γ : Option (List Code) → Hp → Prop} {P : Program} {w : World} {K : PySem.W.Frag} {mg : Str → Option Value} {base : Heap} {CX : CXT} {k : Nat} {f : Addr}
/-- a def by its body -/
theorem fn_body {x qual : Str} {st : Stmt} {fd : FuncData} {N ps : List Str} {sp : Sp} (Fn : Fun K x qual st f fd) (S : FnScope N ps (defScope st)) (ln : ∀ vs H Q E, sp vs H Q E → vs.length = ps.length)
    (bd : ∀ (cdv : Value) (A : Around) (outer : List Env) (s : Shared) (H : Hp) (vs : List V) (Q : VK) (E : XK), γ A.guards H → Room k (A.deeper (envOfC qual (defScope st) s.heap.objs.size f cdv)) → sp vs H Q E →
      ∃ t, PSs (cxOf CX P w K mg base N qual (defScope st) f cdv A outer s H E) (defBody st) t ∧ t { nx := fun _ H' => Q .non H', rt := Q } (start N vs) H) : FnG γ P w K mg base CX (k + 1) f fd ps sp := by
  obtain ⟨oc, od, kV, doc, pm, an, cdv, ct, osl, rfl, at1, cd1⟩ := Fn.ex
  refine ⟨ln, fun A outer s H args us vs Q E gd rm en bt rv hq => ?_⟩
  have old : ∀ b o, base.get? b = some o → s.heap.get? b = some o := fun b o e => (en.bs b o e).1
  have inK : K.In s.heap := en.mod.kin.keeps old
  have many := ln _ _ _ _ hq
  refine codeAny_call_function rm.depth (inK _ _ at1) rfl S.co S.gen rfl (PySem.W.codeRec_of inK cd1) (bt _ _ _ _ ?_)
  refine wpAny_newFunctionEnv_cells S.kind (fun y hy => ?_) fun env he s1 lay => ?_
  · obtain ⟨nm, u⟩ := y
    rcases S.par nm (List.of_mem_zip hy).1 with lc | ce
    · exact Or.inl lc
    · exact Or.inr ⟨ce, PySem.W.cellsFrom_some _ _ _ (Or.inl ce)⟩
  · subst he
    refine ⟨(en.mod.nolimit.keeps old).keeps lay.toInCall.keep, codeAny_func ?_⟩
    obtain ⟨t, body, start1⟩ := bd cdv A outer s H vs Q E gd (rm.deeper _) hq
    have inv := inv_start (CX := CX) (E := E) S rm.hd en many rv lay
    refine wpAny_mono (body.run [] s1 (start N vs) H _ inv start1) (fun fl s' out => ?_) fun _ _ z => z
    cases fl with
    | next =>
      obtain ⟨σ', H', J, q⟩ := out
      exact ⟨V.non, H', J.os, J.bare, J.base, J.hok, rfl, q⟩
    | ret u =>
      obtain ⟨v, σ', H', J, rv', q⟩ := out
      exact ⟨v, H', J.os, J.bare, J.base, J.hok, rv', q⟩
    | brk => obtain ⟨_, _, _, q⟩ := out; exact q.elim
    | cont => obtain ⟨_, _, _, q⟩ := out; exact q.elim
theorem fn_DG {x qual : Str} {st : Stmt} {fd : FuncData} {N ps : List Str} {g : DS → Res Fl} (Fn : Fun K x qual st f fd) (S : FnScope N ps (defScope st))
    (body : ∀ (cdv : Value) (A : Around) (outer : List Env) (s : Shared) (H : Hp) (E : XK), γ (cxOf (L2.CX P w) P w K mg base N qual (defScope st) f cdv A outer s H E).A.guards H → Ctx k (cxOf (L2.CX P w) P w K mg base N qual (defScope st) f cdv A outer s H E) (fun cls d _ H' => E cls d H') →
      DSs (cxOf (L2.CX P w) P w K mg base N qual (defScope st) f cdv A outer s H E) (fun cls d _ H' => E cls d H') (defBody st) g) :
    FnG γ P w K mg base (L2.CX P w) (k + 1) f fd ps (spD K mg ps.length (fnM N.length g)) := by
  refine fn_body Fn S (fun vs H Q E h => h.choose_spec.choose_spec.1) fun cdv A outer s H vs Q E gd hr h => ?_
  obtain ⟨F, ss, hn, hF, a, p⟩ := h
  refine ⟨_, body cdv A outer s H E gd ⟨hr, takes_of rfl rfl rfl rfl, passes_of rfl, rfl⟩, callB F H vs ss, F, ss ++ List.replicate (N.length - ss.length) Slot.no, rel_start (N := N) hF a ?_, ?_⟩
  · have := congrArg List.length S.pre
    rw [List.length_take] at this
    have h2 : vs.length = ps.length := hn
    omega
  · unfold fnM at p
    revert p
    cases g (ss ++ List.replicate (N.length - ss.length) .no) with
    | bad => exact fun p => p
    | ex x s' =>
      intro p σ' cls dd F' H' r sm ex
      dsimp only at p
      cases ok : okOuts ss s' with
      | false => rw [ok] at p; exact p.elim
      | true =>
        rw [ok] at p
        exact p cls dd F' H' (call_end a ok r) ex
    | ok fl s' =>
      cases fl with
      | nx =>
        intro p σ' F' H' r sm
        dsimp only at p
        cases ok : okOuts ss s' with
        | false => rw [ok] at p; exact p.elim
        | true =>
          rw [ok] at p
          exact p .non F' H' (call_end a ok r) Rep.non
      | rt d =>
        intro p v σ' F' H' r sm q
        dsimp only at p
        cases ok : okOuts ss s' with
        | false => rw [ok] at p; exact p.elim
        | true =>
          rw [ok] at p
          exact p v F' H' (call_end a ok r) q
      | bk => exact fun p => p.elim
      | ct => exact fun p => p.elim
end
section
variable {γ : Option (List Code) → Hp → Prop} {X : Cx} {W : WX} {pos p : Pos} {e : Expr} {es : List Expr} {x : Str} {k j : Nat} {f : Addr} {fd : FuncData} {ps : List Str} {m : DS → Res D}
theorem run_G {pins : List (Addr × Obj)} {σ : St} {H : Hp} {s : Shared} {Q : VK} {E : St → XK} {us : List Value} {vs : List V} {sp : Sp} {CX : CXT} {A : Around} (F : FnG γ X.prog X.w X.K X.mg X.base CX k f fd ps sp) (gd : γ A.guards H) (rm : Room k A) (en : ∀ {s H}, Inv X pins σ H s → Env0 X.prog X.w X.K X.mg X.base A X.stack s H) (bn : Binds X.K fd ps []) (px : PassesAt CX X σ (E σ))
    (I : Inv X pins σ H s) (rv : Vals vs us) (h : sp vs H Q (E σ)) : wpAny (model X.prog X.w) A (call (.ref f) us) (EP X pins σ Q) X.xe s := by
  have many : us.length = ps.length := by rw [← rv.length]; exact F.len _ _ _ _ h
  have bt := bn s us I.kIn (by rw [List.append_nil]; exact many)
  rw [List.append_nil] at bt
  refine wpAny_call (codeAny_mono (F.run A X.stack s H ⟨us, []⟩ us vs Q (E σ) gd rm (en I) bt rv h) fun r s' out => ?_)
  cases r with
  | error z => exact px pins H s z s' I out
  | ok fl =>
    cases fl with
    | ret u => exact I.after out
    | next => exact out.elim
    | brk => exact out.elim
    | cont => exact out.elim
theorem pe_G {E : St → XK} {sp : Sp} {CX : CXT} {t : TA} (F : FnG N0 X.prog X.w X.K X.mg X.base CX k f fd ps sp) (gd : X.A.guards = some []) (rm : Room k X.A) (gl : Gl X x) (hm : X.mg x = some (.ref f)) (hk : PySem.W.keepIn X.K (.ref f) = true) (bn : Binds X.K fd ps []) (px : ∀ σ, PassesAt CX X σ (E σ))
    (pa : PA X (e :: es) t) (nd : (x == ("__debug__" : Str)) = false := by decide) (he : starEach (e :: es) X.env = (false, eval e X.env) :: starEach es X.env := by rfl) (hpl : (backTo pos (starEach es X.env)).any (·.1) = false := by rfl) :
    PE X (.Call (.Name x p) (e :: es) [] pos) (tCallS sp E t) :=
  ⟨fun pins s σ H Q I h => wpAny_Call_Name_kw (ld_glob I gl hm (PySem.W.callWith_K (h₀ := X.base) I.ok.mod.kin hk (thn (pa.run pos pins s σ H _ I h) fun us s1 ⟨vs, H1, I1, rv, q⟩ => ⟨I1.kIn, run_G F gd rm (fun I => I.env0) bn (px σ) I1 rv q⟩) he hpl) nd)⟩
/-- what is known of a def that is called by its name, where it is known what is under way -/
structure DefG (γ : Option (List Code) → Hp → Prop) (X : Cx) (j : Nat) (x : Str) (ps : List Str) (m : DS → Res D) : Prop where
  ex : ∃ f fd, FnG γ X.prog X.w X.K X.mg X.base (L2.CX X.prog X.w) j f fd ps (spD X.K X.mg ps.length m) ∧ X.mg x = some (.ref f) ∧ PySem.W.keepIn X.K (.ref f) = true ∧ Binds X.K fd ps []
theorem de_fnG {g : DS → Res (List Ar)} (C : Ctx k X W) (gd : X.A.guards = some []) (d : DefG N0 X j x ps m) (hj : j ≤ k) (ha : DAs X W (e :: es) g) (hlen : ∀ s as s', g s = .ok as s' → as.length = ps.length) (hg : Gl X x := by rfl) (hdb : (x == ("__debug__" : Str)) = false := by decide)
    (he : starEach (e :: es) X.env = (false, eval e X.env) :: starEach es X.env := by rfl) (hpl : (backTo pos (starEach es X.env)).any (·.1) = false := by rfl) : DE X W (.Call (.Name x p) (e :: es) [] pos) (eFn m g) := by
  obtain ⟨f, fd, F, hm, hk, hb⟩ := d.ex
  refine PE.imp (pe_G F gd (C.room.mono hj) hg hm hk hb (fun σ => passAt C.tk σ) ha hdb he hpl) fun σ H Q ⟨B, F, ds, r, p⟩ => ⟨B, F, ds, r, ?_⟩
  unfold eFn at p
  revert p
  cases eg : g ds with
  | ok as s => exact fun p vs F' H' r' sm q => call_read r' q (by rw [q.len, hlen _ _ _ eg]) sm p
  | ex x s => exact fun p => p
  | bad => exact fun p => p
end
end DL

set_option autoImplicit true
/-! D-layer, part gb: the law's call from the top, where nothing is under way. -/
namespace DL
open PySem PySem.Spec PyProof.Rows L2
theorem law_top {γ : Option (List Code) → Hp → Prop} (top : ∀ H, γ callerA.guards H) {P : Program} {w : World} {K : PySem.W.Frag} {mg mb : Str → Option Value} {CX : CXT} {k : Nat} {fa a : Addr} {fd : FuncData} {x : Str} {sp : Sp} {s : Shared} {vs : List Value} {ns : List Int}
    (inK : K.In s.heap) (gl : s.heap.Ns mainGlobals mg) (bi : s.heap.Ns builtinsNs mb) (boot : ∀ x : Str, x ≠ "__name__" → mb x = bootBuiltins x) (lim : s.heap.NoLimit) (nog : s.gens = #[])
    (scr : s.heap.get? a = some { cls := .type "list", data := .seq vs.toArray }) (nums : IntsAre vs ns) (many : ns.length ≤ sizeLine) (rm : Room k callerA)
    (F : ∀ base : Heap, K.In base → base.Ns mainGlobals mg → FnG γ P w K mg base CX k fa fd [x] sp) (bn : ∀ (s : Shared) (u : Value), BindsTo s fd ⟨[u], []⟩ [(x, u)])
    (pr : ∀ H : Hp, Only H → SqL K H a (ns.map V.int) → sp [.ref a] H (fun v _ => v = .bl true) fun _ _ _ => False)
    (noCX : ∀ H e s', CX [] H s (fun _ _ _ => False) e s' → False) :
    codeAny (model P w) callerA (.call (.ref fa) ⟨[.ref a], []⟩) (fun r s' => r = .ok (.ret (.bool true)) ∧ OldK s.heap s'.heap ∧ s'.os = s.os ∧ AllBare s'.gens) s := by
  have vals := vals_ints nums
  obtain ⟨O, hO⟩ : ∃ O : Obj, O = { cls := .type "list", data := .seq vs.toArray } := ⟨_, rfl⟩
  obtain ⟨H, hH⟩ : ∃ H : Hp, H = fun b => if b = a ∧ K.lookup a = none then some (.frz O (.lst (ns.map V.int))) else none := ⟨_, rfl⟩
  have look : ∀ b, H b = none ∨ (b = a ∧ K.lookup a = none ∧ H b = some (.frz O (.lst (ns.map V.int)))) := fun b => by
    by_cases z : b = a ∧ K.lookup a = none
    · exact .inr ⟨z.1, z.2, by rw [hH]; exact if_pos z⟩
    · exact .inl (by rw [hH]; exact if_neg z)
  have only : Only H := fun b => by
    rcases look b with z | ⟨_, _, z⟩
    · exact .inl z
    · exact .inr ⟨_, _, z⟩
  have seq : SqL K H a (ns.map V.int) := by
    cases hk : K.lookup a with
    | none =>
      refine .inl (.inr ⟨O, ?_⟩)
      rw [hH]
      exact if_pos ⟨rfl, hk⟩
    | some o =>
      have there := inK a o hk
      rw [scr] at there
      cases there
      refine .inr ⟨_, vs.toArray, _, hk, rfl, rfl, rfl, ?_, by simpa using vals⟩
      have := nums.length
      rw [List.size_toArray, this]
      exact many
  have lies : HOk P w H s.heap := fun b u z => by
    rcases look b with n | ⟨rfl, _, e⟩
    · rw [n] at z; cases z
    · rw [e] at z
      cases z
      rw [hO]
      exact ⟨scr, by rw [List.length_map]; exact many, vs, _, vals, scr⟩
  have plain : ∀ {b : Addr} {o : Obj} {es : Array DictEntry} {ep : Nat}, s.heap.get? b = some o → o.data = .dict es ep → (hidT s.heap H).get? b = some o := fun {b o es ep} at1 da => by
    refine hidT_get at1 ?_
    rcases look b with n | ⟨rfl, _, _⟩
    · exact n
    · rw [scr] at at1
      cases at1
      exact nomatch (show Data.seq vs.toArray _ = Data.dict es ep from da)
  have spaces : ∀ {b : Addr} {m : Str → Option Value}, s.heap.Ns b m → (hidT s.heap H).Ns b m := fun {b m} n => by
    obtain ⟨o, es, ep, at1, da, rest⟩ := n
    exact ⟨o, es, ep, plain at1 da, da, rest⟩
  have inB : K.In (hidT s.heap H) := fun b o e => hidT_get (inK b o e) (by
    rcases look b with n | ⟨rfl, no, _⟩
    · exact n
    · rw [no] at e; cases e)
  have md : Mod K mg (hidT s.heap H) := by
    obtain ⟨mc, l1, l2⟩ := lim
    exact ⟨inB, spaces gl, ⟨mb, spaces bi, boot⟩, ⟨mc, spaces l1, l2⟩⟩
  have none0 : ∀ {b : Addr}, b ∈ ([] : List Addr) → False := fun z => by cases z
  have en : Env0 P w K mg (hidT s.heap H) callerA [] s H := ⟨rfl, md, fun b o e => of_hidT e, Nat.le_of_eq (hidT_size _ _), trivial, fun b z => (none0 z).elim, lies, .of_eq nog⟩
  refine codeAny_mono ((F _ inB (spaces gl)).run callerA [] s H ⟨[.ref a], []⟩ [.ref a] [.ref a] _ _ (top H) rm en (bn s (.ref a)) (.cons rfl .nil) (pr H only seq)) fun r s' out => ?_
  cases r with
  | error e => exact (noCX H e s' out).elim
  | ok fl =>
    cases fl with
    | ret u =>
      obtain ⟨v, H', os, bare, un, ok2, rv, q⟩ := out
      have isT : v = .bl true := q
      subst isT
      obtain rfl : u = Value.bool true := rv
      refine ⟨rfl, OldK.of_keep fun b o e => ?_, os, bare⟩
      rcases look b with n | ⟨_, _, z⟩
      · exact un.keep b o e n (fun z => none0 z) (by simp)
      · obtain ⟨e1, _⟩ := lies b _ z
        obtain ⟨e2, _⟩ := ok2 b _ (un.frzs b O _ z)
        rw [e] at e1
        cases e1
        exact e2
    | next => exact False.elim out
    | brk => exact False.elim out
    | cont => exact False.elim out
theorem walk_ofG {γ : Option (List Code) → Hp → Prop} (top : ∀ H, γ callerA.guards H) {l : PySem.W.OpenLaw} {n k : Nat} {q : Program} {loose : List Str} {XP : (Str → Option Value) → Heap → Prop} {YP : World → Heap → Prop} {d : DefRec} {CX : CXT} {x : Str}
    (most : l.most = some n) (fits : n ≤ sizeLine) (nodf : d.params.defaults = []) (rm : Room k callerA)
    (F : ∀ (w : World) (mg : Str → Option Value) (fa : Addr) (h : Heap), YP w h → h.Ns mainGlobals mg → mg d.name = some (.ref fa) →
      ∃ (K : PySem.W.Frag) (fd : FuncData) (sp : Sp), K.In h ∧ (∀ (s : Shared) (u : Value), BindsTo s fd ⟨[u], []⟩ [(x, u)]) ∧
        (∀ (H : Hp) (a : Addr) (ns : List Int), ns.length ≤ n → Only H → SqL K H a (ns.map V.int) → sp [.ref a] H (fun v _ => v = .bl true) fun _ _ _ => False) ∧
        ∀ base : Heap, K.In base → base.Ns mainGlobals mg → FnG γ l.prog w K mg base CX k fa fd [x] sp)
    (noCX : ∀ (H : Hp) (s : Shared) (e : Value) (s' : Shared), CX [] H s (fun _ _ _ => False) e s' → False) :
    PySem.W.WalkO q loose XP YP l.row.toRowW d [] (fun f vs => PySem.call f vs) :=
  Att.attach_call most nodf fun w s0 s1 mg mb fa o pm cd doc a vs ns G Y ho hd hcd hmg hobj hints hlen hg => by
    obtain ⟨K, fd, sp, inK, bn, pr, hF⟩ := F w mg fa _ Y G.T.g hmg
    exact law_top top inK G.T.g G.T.b G.T.builtins G.T.nolimit hg hobj hints (Nat.le_trans hlen fits) rm hF bn (fun H h1 h2 => pr H a ns hlen h1 h2) fun H e s' => noCX H s1 e s'
theorem fng_w {γ : Option (List Code) → Hp → Prop} {P : Program} {w : World} {K : PySem.W.Frag} {mg : Str → Option Value} {base : Heap} {k : Nat} {f : Addr} {fd : FuncData} {ps : List Str} {sp : Sp} (F : FnG γ P w K mg base (L2.CX P w) k f fd ps sp) : FnG γ P w K mg base (CXw P) k f fd ps sp :=
  ⟨F.len, fun A outer s H args us vs Q E gd hr he hb hv hs => codeAny_mono (F.run A outer s H args us vs Q E gd hr he hb hv hs) fun r s' q => by
    cases r with
    | error e => exact ⟨w, q⟩
    | ok fl =>
      cases fl with
      | ret u => exact q
      | _ => exact q⟩
end DL

set_option autoImplicit true
/-! D-layer, part gc: repr of an object with its own __repr__; {x!r} of a tuple of tuples of ints. -/
namespace DL
open PySem PySem.Spec PyProof.Rows L2
/-- the text of an int -/
def rI : D → Option Str
  | .int i => if i.natAbs.log2 < 1920 then some (toString i) else none
  | _ => none
def rIs : List D → Option (List Str)
  | [] => some []
  | d :: ds => (rI d).bind fun t => (rIs ds).map (t :: ·)
/-- the text of a tuple of ints -/
def r1 : D → Option Str
  | .tup ds => (rIs ds).bind fun ts => if (tupleText ts).length ≤ sizeLine then some (tupleText ts) else none
  | _ => none
def r1s : List D → Option (List Str)
  | [] => some []
  | d :: ds => (r1 d).bind fun t => (r1s ds).map (t :: ·)
/-- the text of a tuple of tuples of ints -/
def r2 : D → Option Str
  | .tup ds => (r1s ds).bind fun ts => if (tupleText ts).length ≤ sizeLine then some (tupleText ts) else none
  | _ => none
section
variable {X : Cx} {pins : List (Addr × Obj)} {σ : St} {H : Hp} {s : Shared} {F : Hp}
theorem ints_all {as : List Addr} {h0 : Heap} {d : Nat} : ∀ {ds : List D} {vs : List V} {its : List Value} {ts : List Str}, Reps X.K X.mg F ds vs → Vals vs its → rIs ds = some ts → ReprAllK X.prog X.w as h0 d its ts
  | [], vs, its, ts, h, r, e => by
    unfold Reps at h; subst h
    cases r
    cases e
    exact .nil
  | x :: ds, vs, its, ts, h, r, e => by
    unfold Reps at h
    obtain ⟨v, t, rfl, h1, h2⟩ := h
    cases r with
    | cons ru rr =>
      unfold rIs at e
      cases e1 : rI x with
      | none => rw [e1] at e; cases e
      | some y =>
        rw [e1, Option.bind_some] at e
        cases e2 : rIs ds with
        | none => rw [e2] at e; cases e
        | some ys =>
          rw [e2] at e
          cases e
          unfold rI at e1
          split at e1
          · rename_i i
            split at e1
            · rename_i hl
              cases e1
              cases h1.int_
              obtain ⟨tk, rfl⟩ := ru
              exact .cons (.of_is (.int tk hl) _ _ _) (ints_all h2 rr e2)
            · cases e1
          · cases e1
/-- a tuple of ints is shown -/
theorem tup1_shows (I : Inv X pins σ H s) (sm : Same F H) {x : D} {v : V} {u : Value} {t : Str} (h : Rep X.K X.mg F x v) (ru : RelV v u) (e : r1 x = some t) :
    ∃ a vs, v = .ref a ∧ u = .ref a ∧ H a = some (.tup vs) ∧ (∀ y ∈ vs, ∃ i, y = V.int i) ∧ t.length ≤ sizeLine ∧ ReprK X.prog X.w [a] s.heap 1 (.ref a) t := by
  unfold r1 at e
  split at e
  · rename_i ds
    cases e1 : rIs ds with
    | none => rw [e1] at e; cases e
    | some ts =>
      rw [e1, Option.bind_some] at e
      split at e
      · rename_i hz
        cases e
        obtain ⟨a, vs, rfl, q, rp⟩ := h.tup_
        cases ru
        obtain ⟨its, rv, ⟨o, ho, hc, n, hd⟩, _⟩ := I.tuple (SqT.of (sm _ _ q))
        have all := ints_all (as := []) (h0 := s.heap) (d := 0) rp rv e1
        refine ⟨a, vs, rfl, rfl, sm _ _ q, ?_, hz, ReprK.tuple ho hc hd (by simp) (by simpa using all)⟩
        have key : ∀ {ds : List D} {vs : List V} {ts : List Str}, Reps X.K X.mg F ds vs → rIs ds = some ts → ∀ y ∈ vs, ∃ i, y = V.int i := by
          intro ds
          induction ds with
          | nil => intro vs ts h _ y hy; unfold Reps at h; subst h; cases hy
          | cons d ds ih =>
            intro vs ts h e y hy
            unfold Reps at h
            obtain ⟨v, t, rfl, h1, h2⟩ := h
            unfold rIs at e
            cases e1 : rI d with
            | none => rw [e1] at e; cases e
            | some y1 =>
              rw [e1, Option.bind_some] at e
              cases e2 : rIs ds with
              | none => rw [e2] at e; cases e
              | some ys =>
                rcases List.mem_cons.mp hy with rfl | hy
                · unfold rI at e1
                  split at e1
                  · cases h1.int_; exact ⟨_, rfl⟩
                  · cases e1
                · exact ih h2 e2 y hy
        exact key rp e1
      · cases e
  · cases e
theorem tup1s_show (I : Inv X pins σ H s) (sm : Same F H) : ∀ {ds : List D} {vs : List V} {its : List Value} {ts : List Str}, Reps X.K X.mg F ds vs → Vals vs its → r1s ds = some ts →
    ∃ as : List Addr, vs = as.map V.ref ∧ (∀ a ∈ as, ∃ ws, H a = some (.tup ws) ∧ ∀ y ∈ ws, ∃ i, y = V.int i) ∧ ∀ bs : List Addr, (∀ a ∈ as, a ∈ bs) → ReprAllK X.prog X.w bs s.heap 1 its ts
  | [], vs, its, ts, h, r, e => by
    unfold Reps at h; subst h
    cases r
    cases e
    exact ⟨[], rfl, (fun a ha => nomatch ha), fun bs _ => .nil⟩
  | x :: ds, vs, its, ts, h, r, e => by
    unfold Reps at h
    obtain ⟨v, t, rfl, h1, h2⟩ := h
    cases r with
    | cons ru rr =>
      unfold r1s at e
      cases e1 : r1 x with
      | none => rw [e1] at e; cases e
      | some y =>
        rw [e1, Option.bind_some] at e
        cases e2 : r1s ds with
        | none => rw [e2] at e; cases e
        | some ys =>
          rw [e2] at e
          cases e
          obtain ⟨a, ws, rfl, rfl, ha, hi, _, k⟩ := tup1_shows I sm h1 ru e1
          obtain ⟨as, rfl, q, all⟩ := tup1s_show I sm h2 rr e2
          refine ⟨a :: as, rfl, fun b hb => ?_, fun bs sub => .cons (k.more fun b hb => ?_) (all bs fun b hb => sub b (.tail _ hb))⟩
          · rcases List.mem_cons.mp hb with rfl | hb
            · exact ⟨ws, ha, hi⟩
            · exact q b hb
          · have : b = a := by simpa using hb
            subst this
            exact sub b (.head _)
/-- {t!r}, t a tuple of tuples of ints -/
theorem show_tup2 (I : Inv X pins σ H s) (sm : Same F H) (gd : G0 X.A.guards X.H_0) (hu : X.A.units + 64 < cLine) {x : D} {v : V} {u : Value} {z : Str} {Q : Value → Shared → Prop} {E : Value → Shared → Prop} (h : Rep X.K X.mg F x v) (ru : RelV v u) (e : r2 x = some z)
    (k : ∀ tk s', Inv X pins σ H s' → Q (.str z tk) s') : wpAny (model X.prog X.w) X.A (pyReprObj u) Q E s ∧ z.length ≤ sizeLine := by
  unfold r2 at e
  split at e
  · rename_i ds
    cases e1 : r1s ds with
    | none => rw [e1] at e; cases e
    | some ts =>
      rw [e1, Option.bind_some] at e
      split at e
      · rename_i hz
        cases e
        obtain ⟨a, vs, rfl, q, rp⟩ := h.tup_
        cases ru
        have ha := sm _ _ q
        obtain ⟨its, rv, ⟨o, ho, hc, n, hd⟩, _⟩ := I.tuple (SqT.of (K := X.K) ha)
        obtain ⟨as, rfl, in1, all⟩ := tup1s_show I sm rp rv e1
        have na : a ∉ as := fun z => by
          obtain ⟨ws, hw, hi⟩ := in1 a z
          rw [ha] at hw
          have hw2 : as.map V.ref = ws := by cases hw; rfl
          obtain ⟨i, hi⟩ := hi (.ref a) (by rw [← hw2]; exact List.mem_map_of_mem z)
          cases hi
        obtain ⟨gs, eg, cl⟩ := (gd.at I).clear
        refine ⟨wpAny_pyReprObj_tupleK (as := as) (h₀ := s.heap) (d := 1) (g := gs) ho hc hd na (by simpa using all as fun _ h => h) eg (fun b hb => (List.mem_cons.mp hb).elim (fun z => by subst z; exact cl b _ ha) fun z => by obtain ⟨ws, hw, _⟩ := in1 b z; exact cl b _ hw) (by omega) (fun _ _ h => h) (fun h' tk1 tk2 hk => ?_) hz, hz⟩
        exact k _ _ (I.turnedL (ch := []) (fun b o _ e => hk b o e) fun b hb => nomatch hb)
      · cases e
  · cases e
end
/-! ### the f-string, the call of repr -/
def eRp (f : DS → Res D) : DS → Res D := fun s => (f s).bind fun d s => match r2 d with
  | some z => .ok (.str z) s
  | none => .bad
def eJ3 (pre post : Str) (f : DS → Res D) : DS → Res D := fun s => (f s).bind fun d s => match d with
  | .str z => if (Str.empty ++ pre ++ z).length ≤ sizeLine ∧ (Str.empty ++ pre ++ z ++ post).length ≤ sizeLine then .ok (.str (Str.empty ++ pre ++ z ++ post)) s else .bad
  | _ => .bad
@[simp] theorem eRp_ap (f : DS → Res D) (s : DS) : eRp f s = (f s).bind fun d s => match r2 d with
  | some z => .ok (.str z) s
  | none => .bad := rfl
@[simp] theorem eJ3_ap (pre post : Str) (f : DS → Res D) (s : DS) : eJ3 pre post f s = (f s).bind fun d s => match d with
  | .str z => if (Str.empty ++ pre ++ z).length ≤ sizeLine ∧ (Str.empty ++ pre ++ z ++ post).length ≤ sizeLine then .ok (.str (Str.empty ++ pre ++ z ++ post)) s else .bad
  | _ => .bad := rfl
theorem r2_len {d : D} {z : Str} (e : r2 d = some z) : z.length ≤ sizeLine := by
  unfold r2 at e
  split at e
  · rename_i ds
    cases e1 : r1s ds with
    | none => rw [e1] at e; cases e
    | some ts =>
      rw [e1, Option.bind_some] at e
      split at e
      · rename_i hz; cases e; exact hz
      · cases e
  · cases e
section
variable {X : Cx} {W : WX} {k j : Nat} {pos p p1 p2 p3 : Pos} {e : Expr} {f : DS → Res D} {te : TE}
def tShow (K : PySem.W.Frag) (mg : Str → Option Value) (te : TE) : TE := fun σ H Q => te σ H fun x H1 => ∃ F d z, Same F H1 ∧ Rep K mg F d x ∧ r2 d = some z ∧ Q (.str z) H1
theorem pe_show (gd : G0 X.A.guards X.H_0) (hu : X.A.units + 64 < cLine) (he : PE X e te) : PE X (.FormattedValue e 114 none pos) (tShow X.K X.mg te) := by
  refine ⟨fun pins s σ H Q I h => wpAny_FormattedValue_repr (thn (he.run pins s σ H _ I h) fun v s1 hv => ?_)⟩
  obtain ⟨x, H1, I1, ru, F, d, z, sm, rp, e2, q⟩ := hv
  exact (show_tup2 I1 sm gd hu rp ru e2 fun tk s' I' => wpAny_formatField_str ⟨.str z, H1, I', ⟨_, rfl⟩, q⟩ ⟨.str z, H1, I'.tok _, ⟨_, rfl⟩, q⟩ (r2_len e2)).1
theorem de_rp (C : Ctx k X W) (gd : G0 X.A.guards X.H_0) (he : DE X W e f) : DE X W (.FormattedValue e 114 none pos) (eRp f) := by
  refine PE.imp (pe_show gd C.room.units he) fun σ H Q ⟨B, F, ds, r, p⟩ => ⟨B, F, ds, r, p.bind.mono (fun d s p v F' H' r' s' q => ?_) fun _ _ h => h⟩
  cases e2 : r2 d with
  | none => rw [e2] at p; exact p.elim
  | some z =>
    rw [e2] at p
    exact ⟨F', d, z, r'.sub, q, e2, p _ F' H' r' s' .str⟩
theorem de_j3 {pre post : Str} {j1 j2 : Nat} (he : DE X W e f) (hp : (Str.empty ++ pre).length ≤ sizeLine := by decide +kernel) : DE X W (.JoinedStr [.Constant (.str pre) j1 p1, e, .Constant (.str post) j2 p2] pos) (eJ3 pre post f) := by
  refine PE.imp (pe_joined (.cons pe_str (.cons he (.cons pe_str .nil)))) fun σ H Q ⟨B, F, ds, r, p⟩ => ?_
  refine ⟨pre, rfl, hp, B, F, ds, r, p.bind.mono (fun d s p v F' H' r' s' q => ?_) fun _ _ h => h⟩
  cases d with
  | str z =>
    dsimp only at p
    split at p
    · rename_i hz
      cases q.str_
      exact ⟨z, rfl, hz.1, post, rfl, hz.2, p _ F' H' r' s' .str⟩
    · exact p.elim
  | _ => exact p.elim
/-! ### repr(x), x of a class with its own __repr__ -/
def repO (c : Str) (m : DS → Res D) (f : DS → Res Ar) : DS → Res D := fun s => (f s).bind fun a s => match a.d s with
  | some (.obj c1 fs) => if c1 = c then (match callM m [a] s with
    | .ok (.str r) s => .ok (.str r) s
    | _ => .bad) else .bad
  | _ => .bad
@[simp] theorem repO_ap (c : Str) (m : DS → Res D) (f : DS → Res Ar) (s : DS) : repO c m f s = (f s).bind fun a s => match a.d s with
  | some (.obj c1 fs) => if c1 = c then (match callM m [a] s with
    | .ok (.str r) s => .ok (.str r) s
    | _ => .bad) else .bad
  | _ => .bad := rfl
def rRepO (K : PySem.W.Frag) (mg : Str → Option Value) (C : Addr) (m : DS → Res D) : List V → Hp → VK → Prop := fun xs H Q => ∃ a dx fs, xs = [V.ref a] ∧ H a = some (.ins C dx fs) ∧ spD K mg 1 m [V.ref a] H (fun v H' => ∃ r, v = .str r ∧ Q (.str r) H') (fun _ _ _ => False)
structure RepO (γ : Option (List Code) → Hp → Prop) (X : Cx) (j : Nat) (c : Str) (m : DS → Res D) : Prop where
  ex : ∃ C f fd ps, X.mg c = some (.ref C) ∧ PySem.W.findIn X.K (.ref C) "__repr__" = some (some (.ref f)) ∧ PySem.W.isFn X.K (.ref f) = true ∧ ps.length = 1 ∧ FnG γ X.prog X.w X.K X.mg X.base (L2.CX X.prog X.w) j f fd ps (spD X.K X.mg ps.length m) ∧ Binds X.K fd ps []
theorem call_repO {C fa : Addr} {fd : FuncData} {ps : List Str} {m : DS → Res D} (gd : G0 X.A.guards X.H_0) (hr : Room (j + 1) X.A) (hs : PySem.W.findIn X.K (.ref C) "__repr__" = some (some (.ref fa))) (hf : PySem.W.isFn X.K (.ref fa) = true) (h1 : ps.length = 1)
    (F : FnG G0 X.prog X.w X.K X.mg X.base (L2.CX X.prog X.w) j fa fd ps (spD X.K X.mg ps.length m)) (hb : Binds X.K fd ps []) : CallR X (.builtin "repr") (rRepO X.K X.mg C m) := by
  intro pins s σ H xs us Q I r h
  obtain ⟨a, dx, fs, rfl, ha, h⟩ := h
  obtain ⟨u, rfl, rx⟩ := vals1 r
  cases rx
  obtain ⟨mA, J, _⟩ := ins_get I.hok ha
  obtain ⟨od, J, _⟩ := J.look
  obtain ⟨mm, hF⟩ := I.fr
  refine PySem.W.repr_K (by have := hr.un; show X.A.units + 1 < cLine; omega) hF I.ok.mod.kin J hs hf ?_
  rw [← h1] at h
  refine wpAny_mono (run_G (A := X.A.in1) (us := [.ref a]) (vs := [.ref a]) (E := WE WF) (σ := σ) F (gd.at I) hr.in1 (fun I => I.env0.in1) hb (passAt takes0 σ) I (.cons rfl .nil) h) (fun r s' q => ?_) fun _ _ e => e
  obtain ⟨z, H', I', rz, y, ez, q'⟩ := q
  subst ez
  obtain ⟨tk, rfl⟩ := rz
  exact ⟨.str y, H', I', ⟨tk, rfl⟩, q'⟩
theorem de_repO {c : Str} {m : DS → Res D} {x : Expr} {g : DS → Res Ar} (C : Ctx k X W) (gd : X.A.guards = some []) (d : RepO G0 X j c m) (hj : j + 1 ≤ k) (hm : X.mg "repr" = none) (ha : DA1 X W x g) (hg : Gl X "repr" := by rfl)
    (he : starEach [x] X.env = (false, eval x X.env) :: starEach [] X.env := by rfl) (hpl : (backTo pos (starEach [] X.env)).any (·.1) = false := by rfl) : DE X W (.Call (.Name "repr" p) [x] [] pos) (repO c m g) := by
  obtain ⟨Ca, fa, fd, ps, hC, hs, hf, h1, F, hb⟩ := d.ex
  refine PE.imp (pe_callB (call_repO (g0_of gd _) (C.room.mono hj) hs hf h1 F hb) hg hm (by decide +kernel) (pa_cons ha pa_nil (hs := he)) (by decide) (by decide) he hpl) fun σ H Q h => ?_
  obtain ⟨B, F, s, rl, p0⟩ := h
  refine ⟨B, F, s, rl, p0.bind.mono (fun a s1 p v F1 H1 r1 sm1 q1 => ?_) fun x s h => h⟩
  split at p
  · rename_i c1 fs e1
    split at p
    · rename_i hc
      subst hc
      obtain ⟨pa, C1, dx, ws, rfl, hm1, h1', _⟩ := q1.brep r1 e1
      rw [hC] at hm1; cases hm1
      refine ⟨pa, dx, ws, rfl, h1', ?_⟩
      refine call_read (W := WF) (F0 := F1) (as := [a]) (n := 1) r1 ⟨_, _, rfl, q1, rfl⟩ rfl (Same.refl _) ?_
      revert p
      cases callM m [a] s1 with
      | bad => exact fun p => p.elim
      | ex x s => exact fun p => p.elim
      | ok d s3 =>
        cases d with
        | str z =>
          intro p v F' H' r' sm q
          cases q.str_
          exact ⟨z, rfl, p _ F' H' r' (sm1.trans sm) .str⟩
        | _ => exact fun p => p.elim
    · exact p.elim
  · exact p.elim
end
end DL

set_option autoImplicit true
/-! D-layer, part gd: max(d), the greatest key of a dict whose keys are tuples. -/
namespace DL
open PySem PySem.Spec PyProof.Rows L2
open Sem (wp)
def btD (ds : List D) (i j : Nat) : Bool := PySem.W.dataLt ((ds.map encD).getD j .none) ((ds.map encD).getD i .none)
def bestD (ds : List D) : Option D := ds[argBest (btD ds) (ds.length - 1)]?
theorem argBest_le (bt : Nat → Nat → Bool) : ∀ k, argBest bt k ≤ k
  | 0 => Nat.le_refl _
  | k + 1 => by
    unfold argBest
    have := argBest_le bt k
    split <;> omega
theorem argBest_cg {b c : Nat → Nat → Bool} : ∀ k, (∀ i j, i ≤ k → j ≤ k → b i j = c i j) → argBest b k = argBest c k
  | 0, _ => rfl
  | k + 1, h => by
    have ih := argBest_cg k fun i j hi hj => h i j (by omega) (by omega)
    have l := argBest_le c k
    unfold argBest
    rw [ih, h (k + 1) (argBest c k) (by omega) (by omega)]
theorem ud_key {K : PySem.W.Frag} {mg : Str → Option Value} {F : Hp} {k : List Key} {a : Addr} (h : F a = some (.tup (k.map kV))) : UD K mg F (.ref a) (keyD k) := by
  refine ⟨.ref a, rfl, ?_⟩
  unfold keyD Rep
  exact ⟨a, _, rfl, h, reps_kD⟩
def rMaxT (K : PySem.W.Frag) (mg : Str → Option Value) : List V → Hp → VK → Prop := fun xs H Q => ∃ (G : Hp) (d : Addr) (ws : List (List Key × V)) (b : D), xs = [V.ref d] ∧ Same G H ∧ Rd H d (.dT ws) ∧ sortOk (ws.map fun p => keyD p.1) = true ∧ bestD (ws.map fun p => keyD p.1) = some b ∧ ∀ F' v, Grow G H F' H → Rep K mg F' b v → Q v H
section
variable {X : Cx}
theorem call_maxT (hc : X.calm = true) (hu : X.A.units + 64 < cLine) : CallR X (.builtin "max") (rMaxT X.K X.mg) := by
  intro pins s σ H xs us Q I r h
  obtain ⟨G, d, ws, b, rfl, sm, hd, ok, hb, q⟩ := h
  rw [Vals.ref1 r]
  obtain ⟨z, hs, ks, pr, o, es, ep, ho, hx, hdt, he, hn⟩ := (show ObjOk X.prog X.w H s.heap d (.dT ws) from hd.ok I.hok)
  have l1 : es.size = ks.length := size_of_entries he
  have l2 : ws.length = ks.length := Paired.length pr
  obtain ⟨F', g, hk⟩ := grow_keys sm pr
  have sm' : Same F' H := (g.subs sm).1
  obtain ⟨o1, o2, o3, o4, o5⟩ := sortOk_of ok
  obtain ⟨ds, hds⟩ : ∃ ds, ds = ws.map fun p => keyD p.1 := ⟨_, rfl⟩
  rw [← hds] at hb o1 o2 o4
  have ld : ds.length = es.size := by rw [hds, List.length_map, l2, l1]
  have raw : s.heap.DictRaw d es ep := ⟨o, ho, hx, hdt⟩
  have ne0 : 0 < es.size := by
    rcases Nat.eq_zero_or_pos es.size with z0 | z0
    · have : ds = [] := List.length_eq_zero_iff.mp (by omega)
      rw [this] at hb
      cases hb
    · exact z0
  -- the i-th key
  have at_ : ∀ i (hi : i < es.size), ∃ k a, es[i].key = .ref a ∧ ds[i]? = some (keyD k) ∧ UD X.K X.mg F' (.ref a) (keyD k) := fun i hi => by
    obtain ⟨x, hx⟩ : ∃ x, ks[i]? = some x := ⟨ks[i]'(by omega), List.getElem?_eq_getElem (by omega)⟩
    have qe := entry_at he i
    rw [hx, Array.getElem?_eq_getElem hi] at qe
    have e2 : es[i] = entryOfKey (tupleKind (mixKind X.prog X.w)) x := Option.some.inj qe
    have keyq : ks.map (·.1) = ws.map (·.1) := kt_keys pr
    have hw : (ws.map (·.1))[i]? = some x.1 := by rw [← keyq, List.getElem?_map, hx]; rfl
    refine ⟨x.1, x.2.1, by rw [e2]; rfl, ?_, ud_key (hk x (List.mem_of_getElem? hx))⟩
    rw [hds]
    rw [List.getElem?_map] at hw ⊢
    cases hq : ws[i]? with
    | none => rw [hq] at hw; cases hw
    | some p =>
      rw [hq] at hw
      have : p.1 = x.1 := Option.some.inj hw
      show some (keyD p.1) = _
      rw [this]
  have gd : ∀ i (hi : i < es.size) k, ds[i]? = some (keyD k) → (ds.map encD).getD i .none = encD (keyD k) := fun i hi k e => by
    rw [List.getD_eq_getElem?_getD, List.getElem?_map, e]
    rfl
  have shape : ∀ k, keyD k ∈ ds → encD (keyD k) ≠ .none := fun k hm z => by
    obtain ⟨x, e⟩ := o1 _ hm
    unfold encD at z
    rw [e] at z
    have z : x = .none := z
    unfold keyD toPy at e
    cases e2 : toPys (k.map kD) with
    | none => rw [e2] at e; cases e
    | some ps =>
      rw [e2] at e
      cases e
      cases z
  have cmp : CmpIn X.prog X.w X.A.in1 .Gt s.heap (fun i v => ∃ hi : i < es.size, v = es[i].key) (btD ds) := fun i j vi vj s' Q E keep hi hj hq => by
    obtain ⟨hi, rfl⟩ := hi
    obtain ⟨hj, rfl⟩ := hj
    obtain ⟨k1, a1, e1, d1, u1⟩ := at_ i hi
    obtain ⟨k2, a2, e2, d2, u2⟩ := at_ j hj
    rw [e1, e2]
    have m1 : keyD k1 ∈ ds := List.mem_of_getElem? d1
    have m2 : keyD k2 ∈ ds := List.mem_of_getElem? d2
    obtain ⟨as1, r1⟩ := ud_reads I sm' u1 (o1 _ m1)
    obtain ⟨as2, r2⟩ := ud_reads I sm' u2 (o1 _ m2)
    have hb1 : btD ds i j = PySem.W.dataLt (encD (keyD k2)) (encD (keyD k1)) := by
      unfold btD
      rw [gd i hi k1 d1, gd j hj k2 d2]
    rw [hb1] at hq
    have al := o2 _ (List.mem_map_of_mem m1) _ (List.mem_map_of_mem m2)
    refine PySem.W.rcGt_alike _ _ X.A.in1 s' _ _ _ _ (Reads.keeps keep r1) (Reads.keeps keep r2) al (shape k1 m1) ?_ X.prog X.w E Q hq
    have h8 := o4 _ m1
    have := Nat.min_le_left (encD (keyD k1)).depth (encD (keyD k2)).depth
    show X.A.units + 1 + _ < _
    omega
  have lt : d < s.heap.objs.size := Heap.lt_size ho
  refine call_max_walkH (wpAny_pyIter_dict_raw hs raw ?_)
  refine ⟨_, _, _, _, es.size, _, _, s.heap, btD ds, rfl, (Walks.rawKeys (A := X.A.in1) (I.ok.hd hc) s.heap.objs.size d (Nat.ne_of_lt lt) es ep).toS, ⟨⟨_, Heap.get?_push_size _ rfl, rfl, rfl⟩, raw.push _⟩, fun b hb => ?_, ne0, fun b o e hb => ?_, fun b o e => Heap.get?_push_of_some _ e, cmp, fun v s' hP m => ?_⟩
  · show b < (s.heap.push _).objs.size
    rw [Heap.size_push]
    simp only [List.mem_cons, List.mem_nil_iff, or_false] at hb
    rcases hb with rfl | rfl
    · exact Nat.lt_succ_self _
    · exact Nat.lt_succ_of_lt lt
  · exact absurd (Heap.lt_size e) ((List.mem_singleton.mp hb) ▸ Nat.lt_irrefl _)
  · obtain ⟨hi, rfl⟩ := hP
    obtain ⟨k1, a1, e1, d1, u1⟩ := at_ _ hi
    obtain ⟨h', tk, rfl, keep⟩ := PySem.W.moved_old rfl rfl m
    rw [e1]
    have hb2 : ds[argBest (btD ds) (es.size - 1)]? = some b := by
      unfold bestD at hb
      rw [ld] at hb
      exact hb
    rw [d1] at hb2
    have hb3 : keyD k1 = b := Option.some.inj hb2
    obtain ⟨v, rv, rp⟩ := u1
    rw [hb3] at rp
    exact ⟨v, H, I.kept fun b u e => keep b u e, rv, q F' v g rp⟩
end
end DL
namespace DL
open PySem PySem.Spec PyProof.Rows L2
def maxX : D → Option D
  | .dT kvs => if sortOk (kvs.map fun p => keyD p.1) = true then bestD (kvs.map fun p => keyD p.1) else none
  | d => extD true d
@[simp] theorem maxX_dT (kvs : List (List L2.Key × D)) : maxX (.dT kvs) = if sortOk (kvs.map fun p => keyD p.1) = true then bestD (kvs.map fun p => keyD p.1) else none := rfl
@[simp] theorem maxX_lst (l : List D) : maxX (.lst l) = extD true (.lst l) := rfl
@[simp] theorem maxX_tup (l : List D) : maxX (.tup l) = extD true (.tup l) := rfl
section
variable {K : PySem.W.Frag} {mg : Str → Option Value}
theorem s_maxX : OpS K mg (fun xs H Q => rExtX K true xs H Q ∨ rMaxT K mg xs H Q) (on1 maxX) := by
  intro F H ds vs d Q sm br e k
  obtain ⟨x, v, rfl, rfl, h, e0⟩ := on1_of br e
  unfold maxX at e0
  split at e0
  · rename_i kvs
    split at e0
    · rename_i ok
      obtain ⟨a, ws, rfl, hd, rt⟩ := h
      rw [← RepT.keysEq rt] at ok e0
      exact .inr ⟨F, a, ws, d, rfl, sm, hd, ok, e0, fun F' v g rp => k v F' H g rp⟩
    · cases e0
  · exact .inl (s_ext _ _ _ _ _ _ sm br (show on1 (extD true) [x] = some d from e0) k)
end
section
variable {X : Cx} {W : WX} {k : Nat} {pos p : Pos} {e : Expr} {es : List Expr} {g : DS → Res (List Ar)}
theorem de_maxX (C : Ctx k X W) (hm : X.mg "max" = none) (ha : DAs X W (e :: es) g) (hg : Gl X "max" := by rfl) (he : starEach (e :: es) X.env = (false, eval e X.env) :: starEach es X.env := by rfl) (hpl : (backTo pos (starEach es X.env)).any (·.1) = false := by rfl) : DE X W (.Call (.Name "max" p) (e :: es) [] pos) (eCall (on1 maxX) g) :=
  de_callB ((cr_maxX C.calm).or (call_maxT C.calm (by have := C.room.un; omega))) s_maxX hm (by decide +kernel) ha hg (by decide) (by decide) he hpl
end
end DL

set_option autoImplicit true
/-! D-layer, part ge: repr of a list of objects. -/
namespace DL
open PySem PySem.Spec PyProof.Rows L2
open Sem (wp)
open Builtin
open Builtin.List
section
variable {X : Cx} {pins : List (Addr × Obj)} {σ : St} {H : Hp} {s : Shared}
theorem inv_pin (I : Inv X pins σ H s) {P : Addr} {o : Obj} (e : s.heap.get? P = some o) (f : FpOk X pins H P) (nc : ∀ v, o.data ≠ .cell v) : Inv X ((P, o) :: pins) σ H s :=
  ⟨I.ok, I.os, I.bare, I.base, I.loc, I.cell, I.free, I.freeC, fun p hp => by
      rcases List.mem_append.mp hp with h | h
      · exact I.pin p (List.mem_append_left _ h)
      · rcases List.mem_cons.mp h with rfl | h
        · exact ⟨e, f.1, f.2.1, f.2.2.1, nc⟩
        · exact I.pin p (List.mem_append_right _ h), I.hok, I.len⟩
theorem inv_unpin {q : Addr × Obj} (I : Inv X (q :: pins) σ H s) : Inv X pins σ H s :=
  ⟨I.ok, I.os, I.bare, I.base, I.loc, I.cell, I.free, I.freeC, fun p hp => by
      rcases List.mem_append.mp hp with h | h
      · exact I.pin p (List.mem_append_left _ h)
      · exact I.pin p (List.mem_append_right _ (.tail _ h)), I.hok, I.len⟩
/-- a pinned thing of ours, to be written -/
theorem inv_fp {P : Addr} {o : Obj} (I : Inv X ((P, o) :: pins) σ H s) (hP : X.s_0.heap.objs.size ≤ P) (hn : ∀ p ∈ X.pn ++ pins, p.1 ≠ P) : FpOk X pins H P := by
  obtain ⟨e, n, nl, nf, nc⟩ := I.pin (P, o) (List.mem_append_right _ (.head _))
  refine ⟨n, nl, nf, .inr hP, fun x c ec z => ?_, hn⟩
  obtain ⟨v, oc, g, gd⟩ := I.cell x c ec
  subst z
  rw [e] at g
  cases g
  exact nc _ gd
/-- the text of a value, whatever is under way -/
def ShowsV (X : Cx) (j : Nat) (H0 : Hp) (v : V) (t : Str) : Prop := ∀ (A : Around) (base : Nat) (pins : List (Addr × Obj)) (σ : St) (H : Hp) (s : Shared) (u : Value) (Q : Str → Shared → Prop), base ≤ sizeLine → A.frames = X.A.frames → Room (j + 1) A → G0 A.guards H →
  Inv X pins σ H s → Same H0 H → RelV v u → (∀ H' s', Inv X pins σ H' s' → Same H H' → Q t s') → wpAny (model X.prog X.w) A (pyReprUnder base u) Q X.xe s
theorem frames_loop (A : Around) (args : Args) : (A.under (.builtin "list.__repr__.loop" args)).frames = A.frames := by
  first | rfl | simp [Around.under, Code.envs, Code.isFrame, pushEnvs]
theorem handled_loop (A : Around) (args : Args) : (A.under (.builtin "list.__repr__.loop" args)).handled = A.handled := by
  first | rfl | simp [Around.under]
theorem depth_loop (A : Around) (args : Args) : (A.under (.builtin "list.__repr__.loop" args)).depth ≤ A.depth + 1 := by
  first
    | exact Nat.le_succ _
    | exact Nat.le_refl _
    | simp [Around.under, Code.weight, Code.isCreation, Code.isGuard, Code.isCaller, Code.frames, Code.isFrame, guardIds]
theorem room_loop {k : Nat} {A : Around} (r : Room (k + 1) A) (args : Args) : Room k (A.under (.builtin "list.__repr__.loop" args)) := by
  refine ⟨by rw [handled_loop]; exact r.hd, ?_, ?_⟩
  · have := r.dp
    have := depth_loop A args
    omega
  · have := r.un
    rw [units_under_list_loop]
    omega
theorem list_loop {l P : Addr} {od : Obj} {n : Nat} {vs : List V} {its : List Value} {ts : List Str} {A : Around} {H0 : Hp} {j base : Nat} {R : Result → Shared → Prop}
    (fr : A.frames = X.A.frames) (rm : Room (j + 2) A) (gd : G0 A.guards H0) (hl : H0 l = some (.frz od (.lst vs))) (hd : od.data = .seq its.toArray n) (rv : Vals vs its)
    (hlen : ts.length = vs.length) (hT : ∀ (i : Nat) (v : V), vs[i]? = some v → ∃ t, ts[i]? = some t ∧ ShowsV X j H0 v t) (hsz : base + (listText ts).length ≤ sizeLine)
    (hP : X.s_0.heap.objs.size ≤ P) (hn : ∀ p ∈ X.pn ++ pins, p.1 ≠ P) (hX : ∀ e s', X.xe e s' → R (.error e) s') :
    ∀ (k i : Nat) (s : Shared) (H : Hp) (acc : Array Value) (c : Nat) (done : List (Str × Tok)), vs.length - i = k → i ≤ vs.length → Inv X ((P, { cls := .type "list", dict := none, data := .seq acc c, slots := #[] }) :: pins) σ H s → Same H0 H →
    acc.toList = strValues done → done.map (·.1) = ts.take i → (∀ H' s' u, Inv X pins σ H' s' → Same H0 H' → R (.ok (.ret (.str (listText ts) u))) s') →
    codeAny (model X.prog X.w) A (.builtin "list.__repr__.loop" ⟨[.ref l, rawInt i, .ref P, rawInt ((base + piled (ts.take i) : Nat) : Int)], []⟩) R s := by
  have hX1 : (listText ts).length = (textFrom 0 "[" ts).length + 1 := by
    show (textFrom 0 "[" ts ++ "]").length = _
    rw [strLen_append]; rfl
  have hL := textFrom_len ts 0 "["
  have hil : its.length = vs.length := rv.length.symm
  have hsz1 : its.length ≤ sizeLine := by
    have h1 := hL.1
    rw [if_neg (Nat.lt_irrefl 0)] at h1
    omega
  have hsz2 : ∀ t ∈ ts, t.length ≤ sizeLine := fun t ht => by
    have h2 := hL.2.1 t ht
    omega
  have hsz3 : (listText ts).length ≤ sizeLine := by omega
  have hp3 := piled_le_listText ts
  intro k
  induction k with
  | zero =>
    intro i s H acc c done hk hi I sm hacc hdone hR
    have hin : i = vs.length := by omega
    obtain ⟨eP, _⟩ := I.pin _ (List.mem_append_right _ (.head _))
    obtain ⟨el, _⟩ := I.hok l _ (sm _ _ hl)
    refine codeAny_builtin F.entry_list_repr_loop ?_
    show wpAny _ _ («list.__repr__.loop» ⟨[.ref l, .int i 0, .ref P, .int ((base + piled (ts.take i) : Nat) : Int) 0], []⟩) _ _ s
    rw [repr_loop_tree]
    refine wpAny_bind (wpAny_listItems el hd ?_)
    have hnone : its.toArray[(i : Int).toNat]? = none := by simp [hin, hil]
    simp only [hnone]
    unfold reprEnd
    refine wpAny_bind (wpAny_listItems eP rfl ?_)
    rw [hacc, repr_fold]
    refine wpAny_bind (wpAny_pure ?_)
    have hall : done.map (·.1) = ts := by rw [hdone, hin, ← hlen, List.take_length]
    rw [hall]
    refine wpAny_bind (wpAny_mkStr (wpAny_pure ?_) hsz3)
    exact hR H _ _ ((inv_unpin I).tok _) sm
  | succ k ih =>
    intro i s H acc c done hk hi I sm hacc hdone hR
    have hlt : i < vs.length := by omega
    obtain ⟨t, ht, hrep⟩ := hT i vs[i] (List.getElem?_eq_getElem hlt)
    have hp1 := piled_take_succ ht
    have hp2 := piled_take_le ts (i + 1)
    obtain ⟨eP, nP, _⟩ := I.pin _ (List.mem_append_right _ (.head _))
    obtain ⟨el, _⟩ := I.hok l _ (sm _ _ hl)
    have hlt2 : i < its.length := by omega
    have rvi : RelV vs[i] its[i] := by
      obtain ⟨u, e, r⟩ := rv.get (List.getElem?_eq_getElem hlt)
      rw [List.getElem?_eq_getElem hlt2] at e
      cases e
      exact r
    refine codeAny_builtin F.entry_list_repr_loop ?_
    show wpAny _ _ («list.__repr__.loop» ⟨[.ref l, .int i 0, .ref P, .int ((base + piled (ts.take i) : Nat) : Int) 0], []⟩) _ _ s
    rw [repr_loop_tree]
    refine wpAny_bind (wpAny_listItems el hd ?_)
    have hsome : its.toArray[(i : Int).toNat]? = some its[i] := by simp [hlt2]
    simp only [hsome]
    rw [Int.toNat_natCast]
    have gd2 : G0 (A.under (.builtin "list.__repr__.loop" ⟨[.ref l, rawInt i, .ref P, rawInt ((base + piled (ts.take i) : Nat) : Int)], []⟩)).guards H := by
      obtain ⟨gs, eg, q⟩ := gd
      refine ⟨_ :: gs, guards_under_guard (isGuard_list_loop _) eg, fun id v rest kw hm => ?_⟩
      rcases List.mem_cons.mp hm with e | hm
      · cases e
        exact ⟨l, _, _, rfl, sm _ _ hl⟩
      · obtain ⟨b, o, u, e1, e2⟩ := q id v rest kw hm
        exact ⟨b, o, u, e1, sm _ _ e2⟩
    refine wpAny_bind (wpAny_holding (wpAny_mono (hrep _ (base + piled (ts.take i) + 1) _ σ H s its[i] _ (by omega) ((frames_loop _ _).trans fr) (room_loop rm _) gd2 I sm rvi fun H' s' I' sm' => ?_) (fun _ _ h => h) fun e s' h => hX e s' h))
    refine wpAny_bind (wpAny_mkStr ?_ (hsz2 t (List.mem_of_getElem? ht)))
    refine wpAny_bind ?_
    show wpAny _ _ (updateSeq P _) _ _ _
    have hasz : acc.size ≤ sizeLine := by
      have e1 : acc.toList.length = acc.size := by simp
      have e2 : (strValues done).length = done.length := by simp [strValues]
      have e3 : done.length = (ts.take i).length := by rw [← hdone, List.length_map]
      have e4 : (ts.take i).length ≤ i := by rw [List.length_take]; omega
      rw [hacc] at e1; omega
    obtain ⟨eP', nP', _⟩ := I'.pin _ (List.mem_append_right _ (.head _))
    refine wpAny_updateSeq eP' rfl (wpAny_pure ⟨F.quiet_list_repr_loop _, ?_⟩) hasz
    have e1 : ((i : Int) + 1) = ((i + 1 : Nat) : Int) := by omega
    have e2 : base + piled (ts.take i) + (t.length + 2) = base + piled (ts.take (i + 1)) := by omega
    rw [e1, e2]
    have fp := inv_fp I' hP hn
    have I2 := (inv_unpin I').turnedL (t' := s'.toks + 1) (ch := [P]) (h' := s'.heap.update P (Obj.mapSeq (·.push (.str t s'.toks)))) (fun b o hb e => by
      have : b ≠ P := fun z => hb (by rw [z]; exact .head _)
      exact (Heap.get?_update_other _ _ (fun h : P = b => this h.symm)).trans e) fun b hb => by
      have : b = P := by simpa using hb
      rw [this]; exact fp
    exact ih (i + 1) _ H' (acc.push (.str t s'.toks)) _ (done ++ [(t, s'.toks)]) (by omega) hlt (inv_pin I2 (Heap.get?_update_self _ eP' rfl) fp fun v z => by cases z) (fun b o e => sm' b o (sm b o e)) (by simp [hacc, strValues]) (by simp [List.take_add_one, ht, hdone]) hR

/-! ### an object's own text, under way -/
variable {prog : Program} {w : World} {A : Around} {E : Value → Shared → Prop} {K : PySem.W.Frag} {x C L f : Addr} {h₀ : Heap} {m : Str → Option Value} {ox : Obj} {od : Option Obj}
theorem ifBoundBy_K {M : Model} {last : Value → List Value → Sem Value} {name : Str} {Q : Option Value → Shared → Prop} (X : K.In s.heap) (I : PySem.W.InstAt s.heap x ox C od) (hs : PySem.W.findIn K (.ref C) name = some (some (.ref f))) (hf : PySem.W.isFn K (.ref f) = true)
    (h : wpAny M A (last (.ref f) [.ref x]) (fun v => Q (some v)) E s) : wpAny M A (callSpecialIfBoundBy? last (.ref x) name) Q E s := by
  simp only [callSpecialIfBoundBy?, bindSpecialIfBound?]
  refine wpAny_holding (wpAny_bind (wpAny_bind (wpAny_bind (I.type.here ((PySem.W.looks_findIn X hs).here ?_)))))
  refine wpAny_bind (wpAny_askSetting (wpAny_ite ?_))
  have fin : wpAny M A (last (.ref f) [.ref x] >>= fun v => pure (some v)) Q E s := wpAny_bind (wpAny_mono h (fun v s' h' => wpAny_pure h') fun _ _ h' => h')
  split
  · exact wpAny_bind ((PySem.W.bind_fn X _ (beq_iff_eq.mp hf)).here (wpAny_pure (by exact fin)))
  · exact wpAny_tryCatch (wpAny_bind ((PySem.W.bind_fn X _ (beq_iff_eq.mp hf)).here (wpAny_pure (by exact fin))))
theorem reprU_K {base : Nat} {Q : Str → Shared → Prop} (hb : base ≤ sizeLine) (hu : A.units < cLine) (F : Fr h₀ L s.heap m) (X₀ : K.In h₀) (I : PySem.W.InstAt s.heap x ox C od) (hs : PySem.W.findIn K (.ref C) "__repr__" = some (some (.ref f))) (hf : PySem.W.isFn K (.ref f) = true)
    (h : wpAny (model prog w) A (call (.ref f) [.ref x]) (fun v s' => ∃ z u, v = .str z u ∧ Q z s') E s) : wpAny (model prog w) A (pyReprUnder base (.ref x)) Q E s := by
  refine wpAny_pyReprUnder_ref hb ?_
  unfold pyReprObjUnder pyReprObjBy
  refine wpAny_bind (wpAny_cRoomFor hu ?_)
  refine wpAny_bind (wpAny_bind (I.type.here ((PySem.W.looks_findIn (X₀.keeps F.keep) hs).here ?_)))
  show wpAny _ _ (if (some (Value.ref f)).isNone = true then _ else _) _ _ _
  rw [if_neg (by simp)]
  refine wpAny_bind (m := callSpecialIfBoundBy? _ (.ref x) (Str.ofString "__repr__")) (ifBoundBy_K (X₀.keeps F.keep) I hs hf ?_)
  show wpAny _ _ (call (.ref f) ([.ref x] ++ [])) _ _ _
  refine wpAny_mono h (fun v s' hv => ?_) fun _ _ e => e
  obtain ⟨z, u, rfl, q⟩ := hv
  refine wpAny_bind (wpAny_isInstance (typeIs_str _ _ _) isSubtype_str_str ?_)
  first
    | exact wpAny_pure ⟨_, _, rfl, q⟩
    | (rw [if_pos rfl]; exact wpAny_pure ⟨_, _, rfl, q⟩)
    | (simp only [if_true]; exact wpAny_pure ⟨_, _, rfl, q⟩)
end
/-! ### what holds no list -/
mutual
def noL : D → Bool
  | .non => true
  | .bl _ => true
  | .int _ => true
  | .str _ => true
  | .tup ds => noLs ds
  | .lst _ => false
  | .scr _ => false
  | .dT _ => false
  | .dK _ => false
  | .obj _ fs => noLf fs
def noLs : List D → Bool
  | [] => true
  | d :: ds => noL d && noLs ds
def noLf : List (Str × D) → Bool
  | [] => true
  | p :: ds => noL p.2 && noLf ds
end
section
variable {K : PySem.W.Frag} {mg : Str → Option Value} {F F' : Hp}
mutual
theorem Rep.noL (kt : ∀ a xs, F a = some (.tup xs) → F' a = some (.tup xs)) (ki : ∀ a C dx fs, F a = some (.ins C dx fs) → F' a = some (.ins C dx fs)) : ∀ (d : D) (v : V), noL d = true → Rep K mg F d v → Rep K mg F' d v
  | .non, _, _, h => h
  | .bl _, _, _, h => h
  | .int _, _, _, h => h
  | .str _, _, _, h => h
  | .tup ds, _, n, ⟨a, vs, e, s, r⟩ => ⟨a, vs, e, kt _ _ s, Reps.noL kt ki ds vs n r⟩
  | .lst ds, _, n, _ => by cases n
  | .scr ns, _, n, _ => by cases n
  | .dT kvs, _, n, _ => by cases n
  | .dK kvs, _, n, _ => by cases n
  | .obj c fs, _, n, ⟨a, C, dx, vs, e, m, s, r⟩ => ⟨a, C, dx, vs, e, m, ki _ _ _ _ s, RepF.noL kt ki fs vs n r⟩
theorem Reps.noL (kt : ∀ a xs, F a = some (.tup xs) → F' a = some (.tup xs)) (ki : ∀ a C dx fs, F a = some (.ins C dx fs) → F' a = some (.ins C dx fs)) : ∀ (ds : List D) (vs : List V), noLs ds = true → Reps K mg F ds vs → Reps K mg F' ds vs
  | [], _, _, h => h
  | d :: ds, _, n, ⟨v, r, e, h, t⟩ => ⟨v, r, e, Rep.noL kt ki d v (Bool.and_eq_true_iff.mp n).1 h, Reps.noL kt ki ds r (Bool.and_eq_true_iff.mp n).2 t⟩
theorem RepF.noL (kt : ∀ a xs, F a = some (.tup xs) → F' a = some (.tup xs)) (ki : ∀ a C dx fs, F a = some (.ins C dx fs) → F' a = some (.ins C dx fs)) : ∀ (ds : List (Str × D)) (vs : List (Str × V)), noLf ds = true → RepF K mg F ds vs → RepF K mg F' ds vs
  | [], _, _, h => h
  | p :: ds, _, n, ⟨v, r, e, h, t⟩ => ⟨v, r, e, Rep.noL kt ki p.2 v (Bool.and_eq_true_iff.mp n).1 h, RepF.noL kt ki ds r (Bool.and_eq_true_iff.mp n).2 t⟩
end
end
/-- the texts of objects of a class, by its __repr__ -/
def textOf (c : Str) (m : DS → Res D) : D → Option Str
  | .obj c1 fs => if c1 = c ∧ noL (.obj c1 fs) = true then (match m [.sh (.obj c1 fs)] with
    | .ok (.str z) _ => some z
    | _ => none) else none
  | _ => none
def textsOf (c : Str) (m : DS → Res D) : List D → Option (List Str)
  | [] => some []
  | d :: ds => (textOf c m d).bind fun z => (textsOf c m ds).map (z :: ·)
def eRepL (c : Str) (m : DS → Res D) (f : DS → Res Ar) : DS → Res D := fun s => (f s).bind fun a s => match a with
  | .v (.lst (x :: ds)) => match textsOf c m (x :: ds) with
    | some ts => if (listText ts).length ≤ sizeLine then .ok (.str (listText ts)) s else .bad
    | none => .bad
  | _ => .bad
@[simp] theorem eRepL_ap (c : Str) (m : DS → Res D) (f : DS → Res Ar) (s : DS) : eRepL c m f s = (f s).bind fun a s => match a with
  | .v (.lst (x :: ds)) => match textsOf c m (x :: ds) with
    | some ts => if (listText ts).length ≤ sizeLine then .ok (.str (listText ts)) s else .bad
    | none => .bad
  | _ => .bad := rfl
theorem rel_more {K : PySem.W.Frag} {mg : Str → Option Value} {B : Base} {F H H' : Hp} {σ : St} {s : DS} (r : Rel K mg B F H σ s) (k : Same H H') : Rel K mg B F H' σ s := by
  refine ⟨fun a u e => k _ _ (r.sub a u e), r.ext, r.new, fun a u e n => k _ _ (r.frame a u e n), r.len, fun i s e => ?_, r.apart, r.pin, r.io, r.onew⟩
  refine (r.slot i s e).imp id fun ⟨v, e2, q⟩ => ⟨v, e2, q.keeps (Same.refl F) (fun a n _ => n) fun a u n hu => k _ _ hu⟩
section
variable {X : Cx} {W : WX} {k j : Nat} {pos p : Pos}
/-- an object's text -/
theorem obj_shows {C fa : Addr} {fd : FuncData} {ps : List Str} {c : Str} {m : DS → Res D} (hC : X.mg c = some (.ref C)) (hs : PySem.W.findIn X.K (.ref C) "__repr__" = some (some (.ref fa))) (hf : PySem.W.isFn X.K (.ref fa) = true) (h1 : ps.length = 1)
    (Fn : FnG G0 X.prog X.w X.K X.mg X.base (L2.CX X.prog X.w) j fa fd ps (spD X.K X.mg ps.length m)) (hb : Binds X.K fd ps []) {F H0 : Hp} {d : D} {v : V} {t : Str} (e : textOf c m d = some t) (r : Rep X.K X.mg F d v) (sm0 : Same F H0) : ShowsV X j H0 v t := by
  unfold textOf at e
  split at e
  · rename_i c1 fs
    split at e
    · rename_i hc
      obtain ⟨rfl, _⟩ := hc
      split at e
      · rename_i z outs em
        cases e
        intro A base pins σ H s u Q hbase fr rm gd I sm ru k
        have r0 := r
        unfold Rep at r
        obtain ⟨a, C1, dx, ws, rfl, hm1, ha, _⟩ := r
        rw [hC] at hm1
        cases hm1
        cases ru
        have ha' := sm _ _ (sm0 _ _ ha)
        obtain ⟨mA, J, _⟩ := ins_get I.hok ha'
        obtain ⟨od, J, _⟩ := J.look
        obtain ⟨mm, hF⟩ := I.fr
        refine reprU_K hbase (by have := rm.un; omega) hF I.ok.mod.kin J hs hf ?_
        have sp : spD X.K X.mg ps.length m [.ref a] H (fun v H' => v = .str t ∧ Same H H') (WE WF σ) := by
          refine ⟨F, [.sh (.obj c1 fs)], by rw [h1]; rfl, fun b o h => sm _ _ (sm0 _ _ h), ⟨rfl, fun i q hq => ?_, fun i q hq => ?_, fun i j x y p _ hq => ?_⟩, ?_⟩
          · cases i with
            | zero => cases hq; exact ⟨_, rfl, r0⟩
            | succ i => simp at hq
          · cases i with
            | zero => cases hq; exact .inl ⟨_, rfl⟩
            | succ i => simp at hq
          · cases i with
            | zero => cases hq
            | succ i => simp at hq
          · rw [em]
            intro v F' H' ce rv
            cases rv.str_
            refine ⟨rfl, fun b o hb => ce.frame b o hb fun z => ?_⟩
            obtain ⟨i, x, hi, _⟩ := z
            cases i with
            | zero => cases hi
            | succ i => simp at hi
        refine wpAny_mono (run_G (A := A) (us := [.ref a]) (vs := [.ref a]) (E := WE WF) (σ := σ) Fn gd (rm.mono (by omega)) (fun I => ⟨fr.trans I.env0.frames, I.env0.mod, I.env0.bs, I.env0.bsz, I.env0.funs, I.env0.frf, I.env0.hok, I.env0.bare⟩) hb (passAt takes0 σ) I (.cons rfl .nil) sp) (fun r s' q => ?_) fun _ _ e => e
        obtain ⟨y, H', I', rz, hy, sm'⟩ := q
        subst hy
        obtain ⟨tk, rfl⟩ := rz
        exact ⟨t, tk, rfl, k H' s' I' sm'⟩
      · cases e
    · cases e
  · cases e

theorem texts_len : ∀ {c : Str} {m : DS → Res D} {ds : List D} {ts : List Str}, textsOf c m ds = some ts → ts.length = ds.length
  | c, m, [], ts, e => by cases e; rfl
  | c, m, d :: ds, ts, e => by
    unfold textsOf at e
    cases e1 : textOf c m d with
    | none => rw [e1] at e; cases e
    | some z =>
      rw [e1, Option.bind_some] at e
      cases e2 : textsOf c m ds with
      | none => rw [e2] at e; cases e
      | some zs =>
        rw [e2] at e
        cases e
        simp [texts_len e2]
theorem texts_get : ∀ {c : Str} {m : DS → Res D} {ds : List D} {ts : List Str} {i : Nat} {d : D}, textsOf c m ds = some ts → ds[i]? = some d → ∃ t, ts[i]? = some t ∧ textOf c m d = some t
  | c, m, [], ts, i, d, _, e => by simp at e
  | c, m, x :: ds, ts, i, d, h, e => by
    unfold textsOf at h
    cases e1 : textOf c m x with
    | none => rw [e1] at h; cases h
    | some z =>
      rw [e1, Option.bind_some] at h
      cases e2 : textsOf c m ds with
      | none => rw [e2] at h; cases h
      | some zs =>
        rw [e2] at h
        cases h
        cases i with
        | zero => simp at e; subst e; exact ⟨z, rfl, e1⟩
        | succ i =>
          obtain ⟨t, h1, h2⟩ := texts_get (i := i) e2 (by simpa using e)
          exact ⟨t, by simpa using h1, h2⟩
theorem text_noL {c : Str} {m : DS → Res D} {d : D} {t : Str} (e : textOf c m d = some t) : noL d = true := by
  unfold textOf at e
  split at e
  · split at e
    · rename_i h
      exact h.2
    · cases e
  · cases e
def rRepL (K : PySem.W.Frag) (mg : Str → Option Value) (c : Str) (m : DS → Res D) : List V → Hp → VK → Prop := fun xs H Q => ∃ F ds l ts, xs = [V.ref l] ∧ Same F H ∧ Rep K mg F (.lst ds) (.ref l) ∧ ds ≠ [] ∧ textsOf c m ds = some ts ∧ (listText ts).length ≤ sizeLine ∧ ∀ H', Same H H' → Q (.str (listText ts)) H'
theorem call_repL {C fa : Addr} {fd : FuncData} {ps : List Str} {c : Str} {m : DS → Res D} (gd : G0 X.A.guards X.H_0) (hr : Room (j + 4) X.A) (hC : X.mg c = some (.ref C)) (hs : PySem.W.findIn X.K (.ref C) "__repr__" = some (some (.ref fa))) (hf : PySem.W.isFn X.K (.ref fa) = true) (h1 : ps.length = 1)
    (Fn : FnG G0 X.prog X.w X.K X.mg X.base (L2.CX X.prog X.w) j fa fd ps (spD X.K X.mg ps.length m)) (hb : Binds X.K fd ps []) : CallR X (.builtin "repr") (rRepL X.K X.mg c m) := by
  intro pins s σ H xs us Q I r h
  obtain ⟨Fh, ds, l, ts, rfl, sm, rl, hne, ht, hz, k⟩ := h
  obtain ⟨u, rfl, rx⟩ := vals1 r
  cases rx
  unfold Rep at rl
  obtain ⟨l', vs, e0, fl, rp⟩ := rl
  cases e0
  have hl := sm _ _ fl
  obtain ⟨od, J⟩ := I.lock hl trivial
  obtain ⟨H0, hH0⟩ : ∃ H0, H0 = upd H l (.frz od (.lst vs)) := ⟨_, rfl⟩
  rw [← hH0] at J
  have hl0 : H0 l = some (.frz od (.lst vs)) := by rw [hH0, upd_same]
  have other : ∀ b o, b ≠ l → H b = some o → H0 b = some o := fun b o hb e => by rw [hH0, upd_ne hb]; exact e
  obtain ⟨eo, hsz, its, n, rv, eo2⟩ := J.hok l _ hl0
  rw [eo] at eo2
  have eod : od = { cls := .type "list", data := .seq its.toArray n } := by cases eo2; rfl
  have hd : od.data = .seq its.toArray n := by rw [eod]
  obtain ⟨F0, hF0⟩ : ∃ F0 : Hp, F0 = fun b => if b = l then none else Fh b := ⟨_, rfl⟩
  have sm0 : Same F0 H0 := fun b o e => by
    rw [hF0] at e
    dsimp only at e
    split at e
    · cases e
    · rename_i z
      exact other b o z (sm _ _ e)
  have hT : ∀ (i : Nat) (v : V), vs[i]? = some v → ∃ t, ts[i]? = some t ∧ ShowsV X j H0 v t := fun i v ev => by
    obtain ⟨d, ed, rd⟩ := rp.getV ev
    obtain ⟨t, et, ex⟩ := texts_get ht ed
    refine ⟨t, et, obj_shows hC hs hf h1 Fn hb ex (Rep.noL (fun a xs ha => ?_) (fun a C dx fs ha => ?_) d v (text_noL ex) rd) sm0⟩
    · rw [hF0]
      dsimp only
      rw [if_neg fun z => by rw [z, fl] at ha; cases ha]
      exact ha
    · rw [hF0]
      dsimp only
      rw [if_neg fun z => by rw [z, fl] at ha; cases ha]
      exact ha
  have hlen : ts.length = vs.length := (texts_len ht).trans rp.len
  obtain ⟨x0, r0, er0⟩ : ∃ x0 r0, its = x0 :: r0 := by
    have h2 : its.length = ds.length := rv.length.symm.trans rp.len.symm
    cases its with
    | nil =>
      have : ds.length = 0 := by simpa using h2.symm
      exact absurd (List.length_eq_zero_iff.mp this) hne
    | cons x0 r0 => exact ⟨x0, r0, rfl⟩
  have hTy : s.TypeIs (.ref l) "list" := ⟨od, eo, by rw [eod]⟩
  have gd0 : G0 X.A.guards H0 := (gd.at J)
  obtain ⟨gs, eg, q⟩ := gd0
  have cl : ∀ v rest kw, Code.builtin "list.__repr__.loop" ⟨v :: rest, kw⟩ ∈ gs → listSameRef v (.ref l) = false := fun v rest kw hm => by
    obtain ⟨gs1, eg1, q1⟩ := gd.at I
    rw [eg] at eg1
    cases eg1
    obtain ⟨b, o, u, e1, e2⟩ := q1 _ _ _ _ hm
    refine listSameRef_of_ne fun z => ?_
    rw [e1] at z
    cases z
    rw [hl] at e2
    cases e2
  have fin : ∀ H' s' u, Inv X pins σ H' s' → Same H0 H' → EP X pins σ Q (.str (listText ts) u) s' := fun H' s' u I' sm' => by
    have un := I'.unlock (sm' _ _ hl0) (I.nofrz hl trivial)
    refine ⟨.str (listText ts), _, un, ⟨u, rfl⟩, k _ fun b o e => ?_⟩
    by_cases hb : b = l
    · subst hb
      rw [hl] at e
      cases e
      exact upd_same
    · rw [upd_ne hb]
      exact sm' _ _ (other b o hb e)
  refine Calls.call_function_entry PySem.F.kind_repr PySem.F.plain_repr PySem.F.entry_repr (PySem.F.args_repr1 _) ?_
  unfold Builtin.«repr»
  refine wpAny_bind (m := oneArg "repr" _) (wpAny_pure ?_)
  refine wpAny_bind (wpAny_cRoomFor (by have := hr.un; show X.A.units + 1 < cLine; omega) ?_)
  refine wpAny_bind (wpAny_specialOf (name := Str.ofString "__repr__") hTy PySem.F.slot_list_repr.lookup ?_)
  refine wpAny_bind (m := callSpecialIfBound? (.ref l) (Str.ofString "__repr__")) (wpAny_callSpecialIfBound?_slot (name := Str.ofString "__repr__") hTy PySem.F.slot_list_repr ?_)
  refine wpAny_mono (Q := fun v s' => ∃ z u, v = .str z u ∧ EP X pins σ Q v s') (E := X.xe) ?_ (fun v s' hv => ?_) fun _ _ e => e
  · refine wpAny_call (codeAny_call_builtin PySem.F.slot_list_repr.plain PySem.F.entry_list_repr (PySem.F.slot_list_repr.check _ _ _ _ _ _ _ _ hTy (PySem.F.args_list_repr_1 _) ?_))
    refine wpAny_list_repr_head (A := X.A.in1.in1) eg cl eo (by rw [hd, er0]) ?_
    refine wpAny_bind (m := newList []) (wpAny_newObj_type ?_)
    refine wpAny_pure ⟨PySem.F.quiet_list_repr_loop _, ?_⟩
    have fp := J.fpOk (Nat.le_refl _) (J.hok.fresh (Nat.le_refl _))
    have keep : ∀ b o, s.heap.get? b = some o → (s.heap.push { cls := .type "list", data := .seq #[] }).get? b = some o := fun b o e => Heap.get?_push_of_some _ e
    have J1 := inv_pin (J.turnedL (t' := s.toks) (ch := []) (h' := s.heap.push { cls := .type "list", data := .seq #[] }) (fun b o _ e => keep b o e) fun b hb => nomatch hb) (Heap.get?_push_size _ rfl) fp fun v z => by cases z
    refine list_loop (X := X) (pins := pins) (σ := σ) (j := j) (base := 0) (A := X.A.in1) (l := l) (P := s.heap.objs.size) (vs := vs) (its := its) (ts := ts) (H0 := H0) rfl (hr.in1.mono (by omega)) (gd.at J) hl0 hd rv hlen hT (by omega) J.sz fp.2.2.2.2.2 (fun e s' h => h) _ 0 _ H0 #[] 0 [] rfl (Nat.zero_le _) J1 (fun _ _ e => e) rfl rfl fun H' s' u I' sm' => ⟨listText ts, u, rfl, fin H' s' u I' sm'⟩
  · obtain ⟨z, u, rfl, q⟩ := hv
    refine wpAny_bind (wpAny_isInstance (typeIs_str _ _ _) isSubtype_str_str ?_)
    first
      | exact wpAny_pure ⟨_, rfl, q⟩
      | (rw [if_pos rfl]; exact wpAny_pure ⟨_, rfl, q⟩)
      | (simp only [if_true]; exact wpAny_pure ⟨_, rfl, q⟩)

theorem de_repL {c : Str} {m : DS → Res D} {x : Expr} {g : DS → Res Ar} (C : Ctx k X W) (gd : X.A.guards = some []) (d : RepO G0 X j c m) (hj : j + 4 ≤ k) (hm : X.mg "repr" = none) (ha : DA1 X W x g) (hg : Gl X "repr" := by rfl)
    (he : starEach [x] X.env = (false, eval x X.env) :: starEach [] X.env := by rfl) (hpl : (backTo pos (starEach [] X.env)).any (·.1) = false := by rfl) : DE X W (.Call (.Name "repr" p) [x] [] pos) (eRepL c m g) := by
  obtain ⟨Ca, fa, fd, ps, hC, hs, hf, h1, Fn, hb⟩ := d.ex
  refine PE.imp (pe_callB (call_repL (g0_of gd _) (C.room.mono hj) hC hs hf h1 Fn hb) hg hm (by decide +kernel) (pa_cons ha pa_nil (hs := he)) (by decide) (by decide) he hpl) fun σ H Q h => ?_
  obtain ⟨B, F, s, rl, p0⟩ := h
  refine ⟨B, F, s, rl, p0.bind.mono (fun a s1 p v F1 H1 r1 sm1 q1 => ?_) fun x s h => h⟩
  split at p
  · rename_i d0 ds
    split at p
    · rename_i ts et
      split at p
      · rename_i hz
        have q2 := q1
        have q2 : Rep X.K X.mg F1 (.lst (d0 :: ds)) v := q1
        have q3 := q2
        unfold Rep at q3
        obtain ⟨l, vs, rfl, _, _⟩ := q3
        exact ⟨F1, d0 :: ds, l, ts, rfl, r1.sub, q2, by simp, et, hz, fun H' k => p _ F1 H' (rel_more r1 k) sm1 .str⟩
      · exact p.elim
    · exact p.elim
  · exact p.elim
end
end DL

set_option autoImplicit true
/-! D-layer, part gf: d != {}. -/
namespace DL
open PySem PySem.Spec PyProof.Rows L2
set_option autoImplicit false
theorem dict_ne_empty {prog : Program} {w : World} {A : Around} {E : Value → Shared → Prop} {s : Shared} {a b : Addr} {oa ob : Obj} {es : Array DictEntry} {ep eq : Nat} {Q : Value → Shared → Prop} (sa : (a == sysModules) = false) (sb : (b == sysModules) = false)
    (ga : s.heap.get? a = some oa) (xa : oa.ExactDict) (da : oa.data = .dict es ep) (gb : s.heap.get? b = some ob) (xb : ob.ExactDict) (db : ob.data = .dict #[] eq) (hu : A.units < cLine) (h : Q (.bool (!(es.size == 0))) s) :
    wpAny (model prog w) A (compareOp .NotEq (.ref a) (.ref b)) Q E s := by
  have ta : s.TypeIs (.ref a) "dict" := ⟨oa, ga, xa.1⟩
  have tb : s.TypeIs (.ref b) "dict" := ⟨ob, gb, xb.1⟩
  have same : ∀ {A' : Around} {E' : Value → Shared → Prop} {Q' : Bool → Shared → Prop} {nm : String}, Q' (es.size == 0) s → wpAny (model prog w) A' (Builtin.Dict.samePairs nm a b) Q' E' s := fun {A' E' Q' nm} hq => by
    unfold Builtin.Dict.samePairs Builtin.Dict.showsAll
    rw [if_neg (by rw [sa]; exact Bool.false_ne_true), if_neg (by rw [sb]; exact Bool.false_ne_true)]
    refine wpAny_bind (wpAny_pure (wpAny_bind (wpAny_pure (wpAny_bind (wpAny_dictEntries ga da (wpAny_bind (wpAny_dictEntries gb db ?_)))))))
    by_cases hz : es.size = 0
    · rw [if_neg (by rw [hz]; simp)]
      refine wpAny_bind (wpAny_dictEpoch ga da (wpAny_bind ?_))
      rw [hz] at hq ⊢
      rw [Std.Legacy.Range.forIn_eq_forIn_range']
      exact wpAny_pure (wpAny_pure hq)
    · have hb : (es.size == 0) = false := by simpa using hz
      rw [hb] at hq
      rw [if_pos (by simpa using hz)]
      exact wpAny_bind (wpAny_rule (wpAny_pure hq))
  refine wpAny_richCompare_same_room (op := .NotEq) ta tb PySem.F.slot_dict_ne (wpAny_call_entry PySem.F.slot_dict_ne ta PySem.F.entry_dict_ne ?_ (PySem.F.args_dict_ne_2 _ _)) hu
  refine wpAny_bind (m := Builtin.Dict.dictSlotArgs "__ne__" ⟨[.ref a, .ref b], []⟩) ?_
  unfold Builtin.Dict.dictSlotArgs
  refine wpAny_bind (wpAny_notOrdered_dict ta (wpAny_pure (wpAny_bind (wpAny_isInstance (T := "dict") tb PySem.F.sub_dict_dict ?_))))
  simp only [Bool.not_true, Bool.false_eq_true, if_false]
  refine wpAny_bind (wpAny_pure (wpAny_bind (wpAny_pure (wpAny_bind (same ?_)))))
  refine wpAny_pure ⟨_, rfl, ?_⟩
  exact ⟨(fun x => nomatch x), by simpa using h⟩
def neE : D → Option D
  | .dT kvs => some (.bl (!kvs.isEmpty))
  | .dK kvs => some (.bl (!kvs.isEmpty))
  | _ => none
def rNeE : R2 := fun x y H Q => ∃ a b, x = .ref a ∧ y = .ref b ∧ H b = some (.dK []) ∧ ((∃ kvs, Rd H a (.dT kvs) ∧ Q (.bl (!kvs.isEmpty)) H) ∨ ∃ kvs, Rd H a (.dK kvs) ∧ Q (.bl (!kvs.isEmpty)) H)
section
variable {X : Cx} {W : WX} {k : Nat} {pos p2 : Pos} {e : Expr} {f : DS → Res Ar}
theorem op_neE (hu : X.A.units < cLine) : OpR X (compareOp .NotEq) rNeE := by
  intro pins s σ H x y v u Q I rx ry h
  obtain ⟨a, b, rfl, rfl, hb, h⟩ := h
  cases rx; cases ry
  obtain ⟨_, sb, vs, rel, ob, es', eq, gb, xb, db, kb, pb, _⟩ := dk_of I.hok hb
  cases rel
  have e0 : es' = #[] := by
    have h1 := pb.length
    exact Array.eq_empty_of_size_eq_zero (by rw [← Array.length_toList, h1]; rfl)
  subst e0
  rcases h with ⟨kvs, ha, q⟩ | ⟨kvs, ha, q⟩
  · obtain ⟨_, sa, xs, rel, oa, es, ep, ga, xa, da, he, _⟩ := dt_rd I.hok ha
    refine dict_ne_empty sa sb ga xa da gb xb db hu ⟨.bl _, H, I, ?_, q⟩
    have l1 : es.size = xs.length := size_of_entries he
    have l2 := Paired.length rel
    show Value.bool _ = Value.bool _
    congr 1
    cases kvs with
    | nil => simp [l1, ← l2]
    | cons p r => simp [l1, ← l2]
  · obtain ⟨_, sa, xs, rel, oa, es, ep, ga, xa, da, he, hp, _⟩ := dk_rd I.hok ha
    refine dict_ne_empty sa sb ga xa da gb xb db hu ⟨.bl _, H, I, ?_, q⟩
    have l1 : xs.length = es.size := by rw [← hp.length]; exact Array.length_toList
    have l2 := rel.length
    show Value.bool _ = Value.bool _
    congr 1
    cases kvs with
    | nil => simp [← l1, ← l2]
    | cons p r => simp [← l1, ← l2]
theorem neE_read {σ : St} {H : Hp} {Q : VK} (h : tD X.K X.mg W (eOp1 neE f) σ H Q) : tOp rNeE (tD1 X.K X.mg W f) tDNewK σ H Q := by
  obtain ⟨B, F, ds, r, p⟩ := h
  refine ⟨B, F, ds, r, p.bind.mono (fun a s p v F' H' r' s' q b hb => ?_) fun _ _ h => h⟩
  cases e2 : a.d s with
  | none => rw [e2] at p; exact p.elim
  | some d =>
    rw [e2, Option.bind_some] at p
    have r2 := r'.allocH (o := .dK []) hb
    have br := q.brep r2 e2
    cases d with
    | dT kvs =>
      obtain ⟨pa, ws, rfl, hd, rt⟩ := br
      refine ⟨pa, b, rfl, rfl, upd_same, .inl ⟨ws, hd, ?_⟩⟩
      have e : ws.isEmpty = kvs.isEmpty := by
        have := rt.len
        cases kvs <;> cases ws <;> simp_all
      rw [e]
      exact p _ F' _ r2 s' Rep.bl
    | dK kvs =>
      obtain ⟨pa, ws, rfl, hd, rt⟩ := br
      refine ⟨pa, b, rfl, rfl, upd_same, .inr ⟨ws, hd, ?_⟩⟩
      have e : ws.isEmpty = kvs.isEmpty := by
        have := rt.len
        cases kvs <;> cases ws <;> simp_all
      rw [e]
      exact p _ F' _ r2 s' Rep.bl
    | _ => exact p.elim
theorem de_neE (C : Ctx k X W) (he : DA1 X W e f) : DE X W (.Compare e [.NotEq] [.Dict [] [] p2] pos) (eOp1 neE f) := PE.imp (pe_cmpR (op_neE C.room.units0) he pe_dnewK (nomark _)) fun _ _ _ h => neE_read h
theorem dt_neE (C : Ctx k X W) (he : DA1 X W e f) : DT X W (.Compare e [.NotEq] [.Dict [] [] p2] pos) (tB (eOp1 neE f)) := PT.imp (pt_cmpR (op_neE C.room.units0) he pe_dnewK (nomark _)) fun _ _ _ h => neE_read (tb_of h)
@[simp] theorem neE_sq : type_of% @DL.neE.eq_def := @DL.neE.eq_def
end
end DL

set_option autoImplicit true
/-! ### the text -/
namespace LW
open PySem PySem.Spec PyProof.Rows L2 DL
def top (i : Nat) : Stmt := PySem.Challenge.pw_meetcount_k10_curves_over_curves.main.body.getD i (.Pass ⟨0, 0, 0, 0⟩)
def inCls (j : Nat) : Stmt → Stmt
  | .ClassDef _ _ _ body _ _ _ _ _ _ _ => body.getD j (.Pass ⟨0, 0, 0, 0⟩)
  | s => s
def osL : List Str := ["Curve"]
abbrev s__law_mixed : Stmt := top 24
abbrev s__law_cell : Stmt := top 25
abbrev s__law_take : Stmt := top 26
abbrev s__law_powers : Stmt := top 27
abbrev s__law_form : Stmt := top 28
abbrev s_is_number : Stmt := top 15
abbrev s_is_term : Stmt := top 16
abbrev s_look_at_terms : Stmt := top 17
abbrev s_common : Stmt := top 5
abbrev s_common_of : Stmt := top 6
abbrev s_Curve_init : Stmt := inCls 0 (top 18)
abbrev s__law_made : Stmt := top 29
abbrev s__law_product : Stmt := top 32
abbrev s_Curve_eq : Stmt := inCls 1 (top 18)
abbrev s_is_curve : Stmt := top 21
abbrev s_look_at_curve : Stmt := top 22
abbrev s_Curve_table : Stmt := inCls 4 (top 18)
abbrev s_added_to : Stmt := top 7
abbrev s_thinned : Stmt := top 8
abbrev s_product : Stmt := top 9
abbrev s_summed : Stmt := top 10
abbrev s_divided : Stmt := top 11
abbrev s_curve_of : Stmt := top 20
abbrev s_Curve_over : Stmt := inCls 9 (top 18)
abbrev s_Curve_repr : Stmt := inCls 2 (top 18)
abbrev s__law_table : Stmt := top 33
abbrev s__law_due : Stmt := top 34
abbrev s__law_common : Stmt := top 30
abbrev s__law_kept : Stmt := top 31
abbrev s__law_good : Stmt := top 35
abbrev s_law : Stmt := top 36
/-! ### the mirrors -/
/-- _law_mixed: 0 _law_cell_here, 1 _law_k, 2 _law_number -/
noncomputable def m__law_mixed : DS → Res Fl := (sSeq (sSet 2 (eOp2 modD (aOf (eOp2 addD (aOf (eOp2 addD (aOf (eOp2 mulD (aOf (eOp2 modD (aVar 0) (aOf (eC (.int 2147483647))))) (aOf (eC (.int 48271))))) (aOf (eOp2 mulD (aVar 1) (aOf (eC (.int 69621))))))) (aOf (eC (.int 1048583))))) (aOf (eC (.int 2147483629))))) (sSeq (sSet 2 (eOp2 modD (aOf (eOp2 mulD (aVar 2) (aVar 2))) (aOf (eC (.int 2147483587))))) (sRet (eOp2 modD (aOf (eOp2 mulD (aVar 2) (aOf (eOp2 addD (aVar 2) (aOf (eC (.int 2))))))) (aOf (eC (.int 2147483579)))))))
noncomputable def d__law_mixed : DS → Res D := fnM 3 m__law_mixed
/-- _law_cell: 0 _law_script, 1 _law_k, 2 _law_cell_here, 3 _law_found, 4 _law_j -/
noncomputable def m__law_cell : DS → Res Fl := (sSeq (sSet 2 (eC (.int 0))) (sSeq (sIf (tB (eOp2 ltD (aVar 1) (aOf (eCall (on1 lenD) (asCons (aVar 0) asNil))))) (sSet 2 (eOp2 ixD (aVar 0) (aVar 1))) sNil) (sSeq (sIf (tB (eOp2 geD (aVar 2) (aOf (eOp2 powD (aOf (eC (.int 10))) (aOf (eC (.int 18))))))) (sRet (eOp2 modD (aOf (eOp2 subD (aVar 2) (aOf (eOp2 powD (aOf (eC (.int 10))) (aOf (eC (.int 18))))))) (aOf (eOp2 mulD (aOf (eOp2 mulD (aOf (eOp2 mulD (aOf (eOp2 powD (aOf (eC (.int 10))) (aOf (eC (.int 60))))) (aOf (eOp2 powD (aOf (eC (.int 10))) (aOf (eC (.int 60))))))) (aOf (eOp2 powD (aOf (eC (.int 10))) (aOf (eC (.int 60))))))) (aOf (eOp2 powD (aOf (eC (.int 10))) (aOf (eC (.int 60))))))))) sNil) (sSeq (sSet 3 (eC (.int 0))) (sSeq (sFor (rng1D (eC (.int 24))) (gNm 4) (sSet 3 (eOp2 addD (aOf (eOp2 mulD (aVar 3) (aOf (eC (.int 2147483579))))) (aOf (eFn d__law_mixed (asCons (aVar 2) (asCons (aOf (eOp2 addD (aOf (eOp2 addD (aOf (eOp2 mulD (aOf (eC (.int 7))) (aVar 1))) (aOf (eOp2 mulD (aOf (eC (.int 100))) (aVar 4))))) (aOf (eOp2 mulD (aVar 4) (aVar 4))))) asNil))))))) (sRet (eVar 3)))))))
noncomputable def d__law_cell : DS → Res D := fnM 5 m__law_cell
/-- _law_take: 0 _law_pile, 1 _law_size, 2 _law_digit -/
noncomputable def m__law_take : DS → Res Fl := (sSeq (sSet 2 (eOp2 modD (aOf (eOp2 ixD (aVar 0) (aOf (eC (.int 0))))) (aVar 1))) (sSeq (sPut 0 (eC (.int 0)) (eOp2 divD (aOf (eOp2 ixD (aVar 0) (aOf (eC (.int 0))))) (aVar 1))) (sRet (eVar 2))))
noncomputable def d__law_take : DS → Res D := fnM 3 m__law_take
/-- _law_powers: 0 _law_size, 1 _law_found, 2 _law_a, 3 _law_b -/
noncomputable def m__law_powers : DS → Res Fl := (sSeq (sSetO 1 (nLst asNil)) (sSeq (sFor (rngdD (eVar 0) (eOp1 negD (aOf (eC (.int 1)))) (eOp1 negD (aOf (eC (.int 1))))) (gNm 2) (sSet 1 (eOp2 addD (aVar 1) (aOf (eOwn (nLc (rngdD (eOp2 subD (aVar 0) (aVar 2)) (eOp1 negD (aOf (eC (.int 1)))) (eOp1 negD (aOf (eC (.int 1))))) [3] (gNm 3) tYesD (eTup (asCons (aOf (eVar 2)) (asCons (aOf (eVar 3)) (asCons (aOf (eOp2 subD (aOf (eOp2 subD (aVar 0) (aVar 2))) (aVar 3))) asNil)))))))))) (sRet (eVar 1))))
noncomputable def d__law_powers : DS → Res D := fnM 4 m__law_powers
/-- _law_form: 0 _law_pile, 1 _law_size, 2 _law_most, 3 _law_found, 4 _law_powers_here, 5 _law_number -/
noncomputable def m__law_form : DS → Res Fl := (sSeq (sSetO 3 nEmptyT) (sSeq (sFor (valsD (eFn d__law_powers (asCons (aVar 1) asNil))) (gNm 4) (sSeq (sSet 5 (eOp2 subD (aOf (eFn d__law_take (asCons (aVar 0) (asCons (aOf (eOp2 addD (aOf (eOp2 mulD (aOf (eC (.int 2))) (aVar 2))) (aOf (eC (.int 1))))) asNil)))) (aVar 2))) (sIf (tAndD (tB (eOp2 neD (aVar 5) (aOf (eC (.int 0))))) (tB (eOp2 gtD (aOf (eFn d__law_take (asCons (aVar 0) (asCons (aOf (eC (.int 3))) asNil)))) (aOf (eC (.int 0)))))) (sPut 3 (eVar 4) (eVar 5)) sNil))) (sSeq (sIf (tB (eOp1 eqE (aVar 3))) (sPut 3 (eTup (asCons (aOf (eVar 1)) (asCons (aOf (eC (.int 0))) (asCons (aOf (eC (.int 0))) asNil)))) (eC (.int 1))) sNil) (sRet (eVar 3)))))
noncomputable def d__law_form : DS → Res D := fnM 6 m__law_form
/-- is_number: 0 thing -/
noncomputable def m_is_number : DS → Res Fl := (sRet (eAnd (eIsi (isiT osL "int") (aVar 0)) (eNot (eIsi (isiT osL "bool") (aVar 0)))))
noncomputable def d_is_number : DS → Res D := fnM 1 m_is_number
/-- is_term: 0 thing, 1 number -/
noncomputable def m_is_term : DS → Res Fl := (sSeq (sIf (tOrD (tNotD (tB (eIsi (isiT osL "tuple") (aVar 0)))) (tOrD (tB (eOp2 neD (aOf (eCall (on1 lenD) (asCons (aVar 0) asNil))) (aOf (eC (.int 4))))) (tNotD (tB (eCall (on1 allD) (asCons (aOf (eOwn (walkS 0 (lcRun [1] (gNm 1) tYesD (eFn d_is_number (asCons (aVar 1) asNil)))))) asNil)))))) (sRet (eC (.bl false))) sNil) (sRet (eAnd (eOp2 geD (aOf (eCall (on1 (extD false)) (asCons (aOf (eSl (aVar 0) oNone (oSome (eC (.int 3))))) asNil))) (aOf (eC (.int 0)))) (eAnd (eChain leD leD (aOf (eC (.int 1))) (aOf (eCall (on1 sumD) (asCons (aOf (eSl (aVar 0) oNone (oSome (eC (.int 3))))) asNil))) (aOf (eC (.int 3)))) (eOp2 neD (aOf (eOp2 ixD (aVar 0) (aOf (eC (.int 3))))) (aOf (eC (.int 0))))))))
noncomputable def d_is_term : DS → Res D := fnM 2 m_is_term
/-- look_at_terms: 0 thing, 1 known, 2 place, 3 term -/
noncomputable def m_look_at_terms : DS → Res Fl := (sSeq (sIf (tOrD (tNotD (tB (eIsi (isiT2 osL "list" "tuple") (aVar 0)))) (tOrD (tB (eOp2 ltD (aOf (eCall (on1 lenD) (asCons (aVar 0) asNil))) (aOf (eC (.int 1))))) (tB (eOp2 gtD (aOf (eCall (on1 lenD) (asCons (aVar 0) asNil))) (aOf (eC (.int 10))))))) sBad sNil) (sSeq (sSetO 1 (nLst asNil)) (sFor (enumD (eVar 0)) (gTp [(gNm 2), (gNm 3)]) (sSeq (sIf (tOrD (tNotD (tB (eFn d_is_term (asCons (aVar 3) asNil)))) (tOrD (tB (eOp2 neD (aOf (eCall (on1 sumD) (asCons (aOf (eSl (aVar 3) oNone (oSome (eC (.int 3))))) asNil))) (aOf (eCall (on1 sumD) (asCons (aOf (eSl (aOf (eOp2 ixD (aVar 0) (aOf (eC (.int 0))))) oNone (oSome (eC (.int 3))))) asNil))))) (tB (eOp2 inD (aOf (eSl (aVar 3) oNone (oSome (eC (.int 3))))) (aVar 1))))) sBad sNil) (sApp 1 (eSl (aVar 3) oNone (oSome (eC (.int 3)))))))))
noncomputable def d_look_at_terms : DS → Res D := fnM 4 m_look_at_terms
/-- common: 0 one, 1 other -/
noncomputable def m_common : DS → Res Fl := (sSeq (sSet 0 (eCall (on1 absD) (asCons (aVar 0) asNil))) (sSeq (sSet 1 (eCall (on1 absD) (asCons (aVar 1) asNil))) (sSeq (sWhile (tB (eOp2 gtD (aVar 1) (aOf (eC (.int 0))))) (sPar 0 1 (asCons (aOf (eVar 1)) (asCons (aOf (eOp2 modD (aVar 0) (aVar 1))) asNil)))) (sRet (eVar 0)))))
noncomputable def d_common : DS → Res D := fnM 2 m_common
/-- common_of: 0 numbers, 1 found, 2 number -/
noncomputable def m_common_of : DS → Res Fl := (sSeq (sSet 1 (eC (.int 0))) (sSeq (sForS 0 (gNm 2) (sSet 1 (eFn d_common (asCons (aVar 1) (asCons (aVar 2) asNil))))) (sRet (eVar 1))))
noncomputable def d_common_of : DS → Res D := fnM 3 m_common_of
/-- Curve.__init__: 0 self, 1 terms, 2 share, 3 told, 4 term -/
noncomputable def m_Curve_init : DS → Res Fl := (sSeq (sDrop (eFn d_look_at_terms (asCons (aVar 1) asNil))) (sSeq (sFldD 0 "Curve" "degree" (eCall (on1 sumD) (asCons (aOf (eSl (aOf (eOp2 ixD (aVar 1) (aOf (eC (.int 0))))) oNone (oSome (eC (.int 3))))) asNil))) (sSeq (sSet 2 (eFn d_common_of (asCons (aOf (eOwn (walkS 1 (lcRun [4] (gNm 4) tYesD (eOp2 ixD (aVar 4) (aOf (eC (.int 3)))))))) asNil))) (sSeq (sSet 3 (eOp1 revD (aOf (eOwn (nCall (on1 sortD) (asCons (aVar 1) asNil)))))) (sSeq (sIf (tB (eOp2 ltD (aOf (eOp2 ixD (aOf (eOp2 ixD (aVar 3) (aOf (eC (.int 0))))) (aOf (eC (.int 3))))) (aOf (eC (.int 0))))) (sSet 2 (eOp2 subD (aOf (eC (.int 0))) (aVar 2))) sNil) (sFldD 0 "Curve" "terms" (eCall (on1 tupD) (asCons (aOf (eOwn (walkS 3 (lcRun [4] (gNm 4) tYesD (eOp2 addD (aOf (eSl (aVar 4) oNone (oSome (eC (.int 3))))) (aOf (eTup (asCons (aOf (eOp2 divD (aOf (eOp2 ixD (aVar 4) (aOf (eC (.int 3))))) (aVar 2))) asNil)))))))) asNil))))))))
noncomputable def d_Curve_init : DS → Res D := fnM 5 m_Curve_init
/-- _law_made: 0 _law_form_here, 1 _law_powers_here -/
noncomputable def m__law_made : DS → Res Fl := (sRet (eOwn (nMake "Curve" d_Curve_init (asCons (aOf (eOwn (walkS 0 (lcRun [1] (gNm 1) tYesD (eOp2 addD (aVar 1) (aOf (eTup (asCons (aOf (eOp2 ixD (aVar 0) (aVar 1))) asNil)))))))) asNil))))
noncomputable def d__law_made : DS → Res D := fnM 2 m__law_made
/-- _law_product: 0 _law_left, 1 _law_right, 2 _law_found, 3 _law_a, 4 _law_b, 5 _law_powers_here -/
noncomputable def m__law_product : DS → Res Fl := (sSeq (sSetO 2 nEmptyT) (sSeq (sForS 0 (gNm 3) (sForS 1 (gNm 4) (sSeq (sSet 5 (eTup (asCons (aOf (eOp2 addD (aOf (eOp2 ixD (aVar 3) (aOf (eC (.int 0))))) (aOf (eOp2 ixD (aVar 4) (aOf (eC (.int 0))))))) (asCons (aOf (eOp2 addD (aOf (eOp2 ixD (aVar 3) (aOf (eC (.int 1))))) (aOf (eOp2 ixD (aVar 4) (aOf (eC (.int 1))))))) (asCons (aOf (eOp2 addD (aOf (eOp2 ixD (aVar 3) (aOf (eC (.int 2))))) (aOf (eOp2 ixD (aVar 4) (aOf (eC (.int 2))))))) asNil))))) (sPut 2 (eVar 5) (eOp2 addD (aOf (eGet2 (aVar 2) (aVar 5) (aOf (eC (.int 0))))) (aOf (eOp2 mulD (aOf (eOp2 ixD (aVar 0) (aVar 3))) (aOf (eOp2 ixD (aVar 1) (aVar 4)))))))))) (frz 2 (sRet (eOwn (nCall (on1 dictX) (asCons (aOf (eOwn (walkS 2 (lcRun [5] (gNm 5) (tB (eOp2 neD (aOf (eOp2 ixD (aVar 2) (aVar 5))) (aOf (eC (.int 0))))) (eTup (asCons (aOf (eVar 5)) (asCons (aOf (eOp2 ixD (aVar 2) (aVar 5))) asNil))))))) asNil)))))))
noncomputable def d__law_product : DS → Res D := fnM 6 m__law_product
/-- Curve.__eq__: 0 self, 1 other -/
noncomputable def m_Curve_eq : DS → Res Fl := (sRet (eAnd (eIsi (isiC osL "Curve") (aVar 1)) (eOp2 eqD (aOf (eOp1 (fldD "Curve" "terms") (aVar 0))) (aOf (eOp1 (fldD "Curve" "terms") (aVar 1))))))
noncomputable def d_Curve_eq : DS → Res D := fnM 2 m_Curve_eq
/-- is_curve: 0 thing -/
noncomputable def m_is_curve : DS → Res Fl := (sRet (eIsi (isiC osL "Curve") (aVar 0)))
noncomputable def d_is_curve : DS → Res D := fnM 1 m_is_curve
/-- look_at_curve: 0 thing -/
noncomputable def m_look_at_curve : DS → Res Fl := (sIf (tNotD (tB (eFn d_is_curve (asCons (aVar 0) asNil)))) sBad sNil)
noncomputable def d_look_at_curve : DS → Res D := fnM 1 m_look_at_curve
/-- Curve.table: 0 self, 1 term -/
noncomputable def m_Curve_table : DS → Res Fl := (sRet (eOwn (nCall (on1 dictX) (asCons (aOf (eOwn (nLc (valsD (eOp1 (fldD "Curve" "terms") (aVar 0))) [1] (gNm 1) tYesD (eTup (asCons (aOf (eSl (aVar 1) oNone (oSome (eC (.int 3))))) (asCons (aOf (eOp2 ixD (aVar 1) (aOf (eC (.int 3))))) asNil)))))) asNil))))
noncomputable def d_Curve_table : DS → Res D := fnM 2 m_Curve_table
/-- added_to: 0 table, 1 powers, 2 number -/
noncomputable def m_added_to : DS → Res Fl := (sPut 0 (eVar 1) (eOp2 addD (aOf (eGet2 (aVar 0) (aVar 1) (aOf (eC (.int 0))))) (aVar 2)))
noncomputable def d_added_to : DS → Res D := fnM 3 m_added_to
/-- thinned: 0 table, 1 powers -/
noncomputable def m_thinned : DS → Res Fl := (sRet (eOwn (nCall (on1 dictX) (asCons (aOf (eOwn (walkS 0 (lcRun [1] (gNm 1) (tB (eOp2 neD (aOf (eOp2 ixD (aVar 0) (aVar 1))) (aOf (eC (.int 0))))) (eTup (asCons (aOf (eVar 1)) (asCons (aOf (eOp2 ixD (aVar 0) (aVar 1))) asNil))))))) asNil))))
noncomputable def d_thinned : DS → Res D := fnM 2 m_thinned
/-- product: 0 one, 1 other, 2 found, 3 left, 4 right, 5 powers, 6 k -/
noncomputable def m_product : DS → Res Fl := (sSeq (sSetO 2 nEmptyT) (sSeq (sForS 0 (gNm 3) (sForS 1 (gNm 4) (sSeq (sSet 5 (eCall (on1 tupD) (asCons (aOf (eOwn (nLc (rng1D (eCall (on1 lenD) (asCons (aVar 3) asNil))) [6] (gNm 6) tYesD (eOp2 addD (aOf (eOp2 ixD (aVar 3) (aVar 6))) (aOf (eOp2 ixD (aVar 4) (aVar 6))))))) asNil))) (sDrop (eFn d_added_to (asCons (aVar 2) (asCons (aVar 5) (asCons (aOf (eOp2 mulD (aOf (eOp2 ixD (aVar 0) (aVar 3))) (aOf (eOp2 ixD (aVar 1) (aVar 4))))) asNil)))))))) (sRet (eFn d_thinned (asCons (aOf (eVar 2)) asNil)))))
noncomputable def d_product : DS → Res D := fnM 7 m_product
/-- summed: 0 one, 1 other, 2 times, 3 found, 4 powers -/
noncomputable def m_summed : DS → Res Fl := (sSeq (sSetO 3 (nCall (on1 dictX) (asCons (aVar 0) asNil))) (sSeq (sForS 1 (gNm 4) (sDrop (eFn d_added_to (asCons (aVar 3) (asCons (aVar 4) (asCons (aOf (eOp2 mulD (aVar 2) (aOf (eOp2 ixD (aVar 1) (aVar 4))))) asNil)))))) (sRet (eFn d_thinned (asCons (aOf (eVar 3)) asNil)))))
noncomputable def d_summed : DS → Res D := fnM 5 m_summed
/-- divided: 0 table, 1 by, 2 lead, 3 found, 4 rest, 5 first, 6 powers, 7 number, 8 k -/
noncomputable def m_divided : DS → Res Fl := (sSeq (sSet 2 (eCall (on1 maxX) (asCons (aVar 1) asNil))) (sSeq (sSetO 3 nEmptyT) (sSeq (sSetO 4 (nCall (on1 dictX) (asCons (aVar 0) asNil))) (sSeq (sWhile (tB (eOp2 gtD (aOf (eCall (on1 lenD) (asCons (aVar 4) asNil))) (aOf (eC (.int 0))))) (sSeq (sSet 5 (eCall (on1 maxX) (asCons (aVar 4) asNil))) (sSeq (sSet 6 (eCall (on1 tupD) (asCons (aOf (eOwn (nLc (rng1D (eCall (on1 lenD) (asCons (aVar 2) asNil))) [8] (gNm 8) tYesD (eOp2 subD (aOf (eOp2 ixD (aVar 5) (aVar 8))) (aOf (eOp2 ixD (aVar 2) (aVar 8))))))) asNil))) (sSeq (sIf (tOrD (tB (eOp2 ltD (aOf (eCall (on1 (extD false)) (asCons (aVar 6) asNil))) (aOf (eC (.int 0))))) (tB (eOp2 neD (aOf (eOp2 modD (aOf (eOp2 ixD (aVar 4) (aVar 5))) (aOf (eOp2 ixD (aVar 1) (aVar 2))))) (aOf (eC (.int 0)))))) (sRet (eC .non)) sNil) (sSeq (sSet 7 (eOp2 divD (aOf (eOp2 ixD (aVar 4) (aVar 5))) (aOf (eOp2 ixD (aVar 1) (aVar 2))))) (sSeq (sPut 3 (eVar 6) (eVar 7)) (sSet 4 (eFn d_summed (asCons (aOf (eVar 4)) (asCons (aOf (eFn d_product (asCons (aOf (eOwn (nDispT [((eVar 6), (eVar 7))]))) (asCons (aVar 1) asNil)))) (asCons (aOf (eOp1 negD (aOf (eC (.int 1))))) asNil))))))))))) (sRet (eVar 3))))))
noncomputable def d_divided : DS → Res D := fnM 9 m_divided
/-- curve_of: 0 table, 1 powers -/
noncomputable def m_curve_of : DS → Res Fl := (sRet (eOwn (nMake "Curve" d_Curve_init (asCons (aOf (eOwn (walkS 0 (lcRun [1] (gNm 1) tYesD (eOp2 addD (aVar 1) (aOf (eTup (asCons (aOf (eOp2 ixD (aVar 0) (aVar 1))) asNil)))))))) asNil))))
noncomputable def d_curve_of : DS → Res D := fnM 2 m_curve_of
/-- Curve.over: 0 self, 1 other, 2 found -/
noncomputable def m_Curve_over : DS → Res Fl := (sSeq (sDrop (eFn d_look_at_curve (asCons (aVar 1) asNil))) (sSeq (sIf (tB (eOp2 geD (aOf (eOp1 (fldD "Curve" "degree") (aVar 1))) (aOf (eOp1 (fldD "Curve" "degree") (aVar 0))))) (sRet (eC .non)) sNil) (sSeq (sSet 2 (eFn d_divided (asCons (aOf (eMeth "Curve" "table" d_Curve_table (aVar 0) asNil)) (asCons (aOf (eMeth "Curve" "table" d_Curve_table (aVar 1) asNil)) asNil)))) (sSeq (sIf (tB (eOp2 isD (aVar 2) (aOf (eC .non)))) (sRet (eC .non)) sNil) (sRet (eFn d_curve_of (asCons (aVar 2) asNil)))))))
noncomputable def d_Curve_over : DS → Res D := fnM 3 m_Curve_over
/-- Curve.__repr__: 0 self -/
noncomputable def m_Curve_repr : DS → Res Fl := (sRet (eJ3 "Curve(" ")" (eRp (eOp1 (fldD "Curve" "terms") (aVar 0)))))
noncomputable def d_Curve_repr : DS → Res D := fnM 1 m_Curve_repr
/-- _law_table: 0 _law_curve, 1 _law_term -/
noncomputable def m__law_table : DS → Res Fl := (sRet (eOwn (nCall (on1 dictX) (asCons (aOf (eOwn (nLc (valsD (eOp1 (fldD "Curve" "terms") (aVar 0))) [1] (gNm 1) tYesD (eTup (asCons (aOf (eSl (aVar 1) oNone (oSome (eC (.int 3))))) (asCons (aOf (eOp2 ixD (aVar 1) (aOf (eC (.int 3))))) asNil)))))) asNil))))
noncomputable def d__law_table : DS → Res D := fnM 2 m__law_table
/-- _law_due: 0 _law_form_here, 1 _law_by, 2 _law_lead, 3 _law_rest, 4 _law_found, 5 _law_top, 6 _law_powers_here, 7 _law_key, 8 _law_spot -/
noncomputable def m__law_due : DS → Res Fl := (sSeq (sIf (tB (eOp2 geD (aOf (eCall (on1 sumD) (asCons (aOf (eCall (on1 maxX) (asCons (aVar 1) asNil))) asNil))) (aOf (eCall (on1 sumD) (asCons (aOf (eCall (on1 maxX) (asCons (aVar 0) asNil))) asNil))))) (sRet (eC .non)) sNil) (sSeq (sSet 2 (eCall (on1 maxX) (asCons (aVar 1) asNil))) (sSeq (sSetO 3 (nCall (on1 dictX) (asCons (aVar 0) asNil))) (sSeq (sSetO 4 nEmptyT) (sSeq (sWhile (tB (eOp1 neE (aVar 3))) (sSeq (sSet 5 (eCall (on1 maxX) (asCons (aVar 3) asNil))) (sSeq (sSet 6 (eTup (asCons (aOf (eOp2 subD (aOf (eOp2 ixD (aVar 5) (aOf (eC (.int 0))))) (aOf (eOp2 ixD (aVar 2) (aOf (eC (.int 0))))))) (asCons (aOf (eOp2 subD (aOf (eOp2 ixD (aVar 5) (aOf (eC (.int 1))))) (aOf (eOp2 ixD (aVar 2) (aOf (eC (.int 1))))))) (asCons (aOf (eOp2 subD (aOf (eOp2 ixD (aVar 5) (aOf (eC (.int 2))))) (aOf (eOp2 ixD (aVar 2) (aOf (eC (.int 2))))))) asNil))))) (sSeq (sIf (tOrD (tB (eOp2 ltD (aOf (eCall (on1 (extD false)) (asCons (aVar 6) asNil))) (aOf (eC (.int 0))))) (tB (eOp2 neD (aOf (eOp2 modD (aOf (eOp2 ixD (aVar 3) (aVar 5))) (aOf (eOp2 ixD (aVar 1) (aVar 2))))) (aOf (eC (.int 0)))))) (sRet (eC .non)) sNil) (sSeq (sPut 4 (eVar 6) (eOp2 divD (aOf (eOp2 ixD (aVar 3) (aVar 5))) (aOf (eOp2 ixD (aVar 1) (aVar 2))))) (sSeq (sForS 1 (gNm 7) (sSeq (sSet 8 (eTup (asCons (aOf (eOp2 addD (aOf (eOp2 ixD (aVar 7) (aOf (eC (.int 0))))) (aOf (eOp2 ixD (aVar 6) (aOf (eC (.int 0))))))) (asCons (aOf (eOp2 addD (aOf (eOp2 ixD (aVar 7) (aOf (eC (.int 1))))) (aOf (eOp2 ixD (aVar 6) (aOf (eC (.int 1))))))) (asCons (aOf (eOp2 addD (aOf (eOp2 ixD (aVar 7) (aOf (eC (.int 2))))) (aOf (eOp2 ixD (aVar 6) (aOf (eC (.int 2))))))) asNil))))) (sPut 3 (eVar 8) (eOp2 subD (aOf (eGet2 (aVar 3) (aVar 8) (aOf (eC (.int 0))))) (aOf (eOp2 mulD (aOf (eOp2 ixD (aVar 4) (aVar 6))) (aOf (eOp2 ixD (aVar 1) (aVar 7))))))))) (frz 3 (sSetO 3 (nCall (on1 dictX) (asCons (aOf (eOwn (walkS 3 (lcRun [7] (gNm 7) (tB (eOp2 neD (aOf (eOp2 ixD (aVar 3) (aVar 7))) (aOf (eC (.int 0))))) (eTup (asCons (aOf (eVar 7)) (asCons (aOf (eOp2 ixD (aVar 3) (aVar 7))) asNil))))))) asNil)))))))))) (sRet (eVar 4)))))))
noncomputable def d__law_due : DS → Res D := fnM 9 m__law_due
/-- _law_common: 0 _law_left, 1 _law_right -/
noncomputable def m__law_common : DS → Res Fl := (sSeq (sSet 0 (eCall (on1 absD) (asCons (aVar 0) asNil))) (sSeq (sSet 1 (eCall (on1 absD) (asCons (aVar 1) asNil))) (sSeq (sWhile (tB (eOp2 gtD (aVar 1) (aOf (eC (.int 0))))) (sPar 0 1 (asCons (aOf (eVar 1)) (asCons (aOf (eOp2 modD (aVar 0) (aVar 1))) asNil)))) (sRet (eVar 0)))))
noncomputable def d__law_common : DS → Res D := fnM 2 m__law_common
/-- _law_kept: 0 _law_form_here, 1 _law_share, 2 _law_powers_here, 3 _law_told -/
noncomputable def m__law_kept : DS → Res Fl := (sSeq (sSet 1 (eC (.int 0))) (sSeq (sForS 0 (gNm 2) (sSet 1 (eFn d__law_common (asCons (aVar 1) (asCons (aOf (eOp2 ixD (aVar 0) (aVar 2))) asNil))))) (sSeq (sSet 3 (eOp1 revD (aOf (eOwn (nCall (on1 sortD) (asCons (aVar 0) asNil)))))) (sSeq (sIf (tB (eOp2 ltD (aOf (eOp2 ixD (aVar 0) (aOf (eOp2 ixD (aVar 3) (aOf (eC (.int 0))))))) (aOf (eC (.int 0))))) (sSet 1 (eOp2 subD (aOf (eC (.int 0))) (aVar 1))) sNil) (sRet (eCall (on1 tupD) (asCons (aOf (eOwn (walkS 3 (lcRun [2] (gNm 2) tYesD (eOp2 addD (aVar 2) (aOf (eTup (asCons (aOf (eOp2 divD (aOf (eOp2 ixD (aVar 0) (aVar 2))) (aVar 1))) asNil)))))))) asNil)))))))
noncomputable def d__law_kept : DS → Res D := fnM 4 m__law_kept
/-- _law_good: 0 _law_one, 1 _law_two, 2 _law_kept_here, 3 _law_due_here, 4 _law_found -/
noncomputable def m__law_good : DS → Res Fl := (sSeq (sSet 2 (eRepL "Curve" d_Curve_repr (aOf (eOwn (nLst (asCons (aOf (eVar 0)) (asCons (aOf (eVar 1)) asNil))))))) (sSeq (sSet 3 (eFn d__law_due (asCons (aOf (eFn d__law_table (asCons (aVar 0) asNil))) (asCons (aOf (eFn d__law_table (asCons (aVar 1) asNil))) asNil)))) (sSeq (sFor (valsD (eOwn (nLst (asCons (aOf (eMeth "Curve" "over" d_Curve_over (aVar 0) (asCons (aVar 1) asNil))) (asCons (aOf (eMethK "Curve" "over" d_Curve_over [0, 1] (aVar 0) (asCons (aVar 1) asNil))) asNil))))) (gNm 4) (sSeq (sIf (tAndD (tB (eOp2 isD (aVar 3) (aOf (eC .non)))) (tB (eOp2 isNotD (aVar 4) (aOf (eC .non))))) (sRet (eC (.bl false))) sNil) (sIf (tAndD (tB (eOp2 isNotD (aVar 3) (aOf (eC .non)))) (tOrD (tNotD (tB (eIsi (isiC osL "Curve") (aVar 4)))) (tB (eOp2 neD (aOf (eOp1 (fldD "Curve" "terms") (aVar 4))) (aOf (eFn d__law_kept (asCons (aVar 3) asNil))))))) (sRet (eC (.bl false))) sNil))) (sRet (eOp2 eqD (aOf (eRepL "Curve" d_Curve_repr (aOf (eOwn (nLst (asCons (aOf (eVar 0)) (asCons (aOf (eVar 1)) asNil))))))) (aVar 2))))))
noncomputable def d__law_good : DS → Res D := fnM 5 m__law_good
/-- law: 0 _law_script, 1 _law_k, 2 _law_pile, 3 _law_sizes, 4 _law_left, 5 _law_right, 6 _law_a, 7 _law_b, 8 _law_long, 9 _law_both, 10 _law_powers_here, 11 _law_bent, 12 _law_some, 13 _law_one, 14 _law_size, 15 _law_two -/
noncomputable def m_law : DS → Res Fl := (sSeq (sFor (rng1D (eC (.int 4))) (gNm 1) (sSeq (sSetO 2 (nLst (asCons (aOf (eFn d__law_cell (asCons (aVar 0) (asCons (aVar 1) asNil)))) asNil))) (sSeq (sSet 3 (eOp2 ixD (aOf (eOwn (nLst (asCons (aOf (eTup (asCons (aOf (eC (.int 1))) (asCons (aOf (eC (.int 1))) asNil)))) (asCons (aOf (eTup (asCons (aOf (eC (.int 1))) (asCons (aOf (eC (.int 2))) asNil)))) (asCons (aOf (eTup (asCons (aOf (eC (.int 2))) (asCons (aOf (eC (.int 1))) asNil)))) asNil)))))) (aOf (eFn d__law_take (asCons (aVar 2) (asCons (aOf (eC (.int 3))) asNil)))))) (sSeq (sAsg (gLs [(gNm 4), (gNm 5)]) (eOwn (walkS 3 (lcRun [14] (gNm 14) tYesD (eFn d__law_form (asCons (aVar 2) (asCons (aVar 14) (asCons (aOf (eOp2 ixD (aOf (eOwn (nLst (asCons (aOf (eC (.int 2))) (asCons (aOf (eC (.int 9))) (asCons (aOf (eC (.int 17))) asNil)))))) (aOf (eFn d__law_take (asCons (aVar 2) (asCons (aOf (eC (.int 3))) asNil)))))) asNil)))))))) (sSeq (sSet 6 (eFn d__law_made (asCons (aVar 4) asNil))) (sSeq (sSet 7 (eFn d__law_made (asCons (aVar 5) asNil))) (sSeq (sSet 8 (eFn d__law_product (asCons (aVar 4) (asCons (aVar 5) asNil)))) (sSeq (sSet 9 (eFn d__law_made (asCons (aVar 8) asNil))) (sSeq (sIf (tOrD (tB (neO "Curve" d_Curve_eq (aOf (eMeth "Curve" "over" d_Curve_over (aVar 9) (asCons (aVar 6) asNil))) (aVar 7))) (tB (neO "Curve" d_Curve_eq (aOf (eMeth "Curve" "over" d_Curve_over (aVar 9) (asCons (aVar 7) asNil))) (aVar 6)))) (sRet (eC (.bl false))) sNil) (sSeq (sSet 10 (eOp2 ixD (aOf (eOwn (nCall (on1 sortD) (asCons (aVar 8) asNil)))) (aOf (eFn d__law_take (asCons (aVar 2) (asCons (aOf (eCall (on1 lenD) (asCons (aVar 8) asNil))) asNil)))))) (sSeq (sSetO 11 (nCall (on1 dictX) (asCons (aVar 8) asNil))) (sSeq (sPut 11 (eVar 10) (eOp2 addD (aOf (eOp2 addD (aOf (eOp2 ixD (aVar 11) (aVar 10))) (aOf (eC (.int 1))))) (aOf (eCall (on1 intD) (asCons (aOf (eOp2 eqD (aOf (eOp2 ixD (aVar 11) (aVar 10))) (aOf (eOp1 negD (aOf (eC (.int 1))))))) asNil))))) (sSeq (sSetO 12 (nLst (asCons (aOf (eVar 6)) (asCons (aOf (eVar 7)) (asCons (aOf (eVar 9)) (asCons (aOf (eFn d__law_made (asCons (aOf (eVar 11)) asNil))) (asCons (aOf (eFn d__law_made (asCons (aOf (eFn d__law_form (asCons (aVar 2) (asCons (aOf (eC (.int 3))) (asCons (aOf (eC (.int 2))) asNil))))) asNil))) (asCons (aOf (eFn d__law_made (asCons (aOf (eFn d__law_form (asCons (aVar 2) (asCons (aOf (eC (.int 1))) (asCons (aOf (eC (.int 2))) asNil))))) asNil))) asNil)))))))) (frz 12 (sForS 12 (gNm 13) (frz 12 (sIf (tNotD (tB (eCall (on1 allD) (asCons (aOf (eOwn (walkS 12 (lcRun [15] (gNm 15) tYesD (eFn d__law_good (asCons (aVar 13) (asCons (aVar 15) asNil))))))) asNil)))) (sRet (eC (.bl false))) sNil))))))))))))))))) (sRet (eC (.bl true))))
noncomputable def d_law : DS → Res D := fnM 16 m_law
end LW

set_option autoImplicit true
namespace LW
open PySem PySem.Spec PyProof.Rows L2 DL PM
theorem fm0 (a : Int) {b : Int} (h : 0 < b) : 0 ≤ a.fmod b := Int.fmod_nonneg_of_pos a h
theorem fm1 (a : Int) {b : Int} (h : 0 < b) : a.fmod b < b := Int.fmod_lt_of_pos a h
theorem mixed_sp (c k : Int) (h0 : 0 ≤ k) (h1 : k < 1000000) : ∃ d, runD d__law_mixed [.sh (.int c), .sh (.int k)] = .ok d [.no, .no] ∧ ∃ v : Int, d = .int v ∧ 0 ≤ v ∧ v < 2147483579 := by
  have m1 : DL.MulOk k 69621 := mulOk_of (n := 40) (m := 40) (by omega) (by decide) (by decide)
  have m2 : ∀ c : Int, DL.MulOk (c.fmod 2147483647) 48271 := fun c => by
    have := fm0 c (b := 2147483647) (by decide)
    have := fm1 c (b := 2147483647) (by decide)
    exact mulOk_of (n := 40) (m := 40) (by omega) (by decide) (by decide)
  have m3 : ∀ c : Int, DL.MulOk (c.fmod 2147483629) (c.fmod 2147483629) := fun c => by
    have := fm0 c (b := 2147483629) (by decide)
    have := fm1 c (b := 2147483629) (by decide)
    exact mulOk_of (n := 40) (m := 40) (by omega) (by omega) (by decide)
  have m4 : ∀ c : Int, DL.MulOk (c.fmod 2147483587) (c.fmod 2147483587 + 2) := fun c => by
    have := fm0 c (b := 2147483587) (by decide)
    have := fm1 c (b := 2147483587) (by decide)
    exact mulOk_of (n := 40) (m := 40) (by omega) (by omega) (by decide)
  refine runD_ex ?_
  simp [m__law_mixed, m1, m2, m3, m4]
  exact ⟨fm0 _ (by decide), fm1 _ (by decide)⟩
theorem cell_sp (ns : List Int) (k : Int) (h0 : 0 ≤ k) (h1 : k < 100) : ∃ d : D, runD d__law_cell [.sh (.scr ns), .sh (.int k)] = .ok d [.no, .no] ∧ ∃ v : Int, d = .int v ∧ 0 ≤ v ∧ v < 10 ^ 240 := by
  refine runD_ex ?_
  have m5 : DL.MulOk 7 k := mulOk_of (n := 40) (m := 40) (by decide) (by omega) (by decide)
  have hk : ∃ c : Int, Sat (sIf (tB (eOp2 ltD (aVar 1) (aOf (eCall (on1 lenD) (asCons (aVar 0) asNil))))) (sSet 2 (eOp2 ixD (aVar 0) (aVar 1))) sNil [.sh (.scr ns), .sh (.int k), .sh (.int 0), .no, .no]) fun fl s => fl = .nx ∧ s = [.sh (.scr ns), .sh (.int k), .sh (.int c), .no, .no] := by
    by_cases h : k < ns.length
    · have e : ns[k.toNat]? = some (ns[k.toNat]'(by omega)) := List.getElem?_eq_getElem (by omega)
      exact ⟨_, by simp [h, atI_pos ns h0, e]; rfl⟩
    · exact ⟨0, by simp [h]⟩
  obtain ⟨c, hc⟩ := hk
  obtain ⟨fl, s, e, rfl, rfl⟩ := hc.of
  simp [m__law_cell, -sIf_ap]
  rw [e]
  by_cases hb : (1000000000000000000 : Int) ≤ c
  · simp (decide := true) [hb]
    exact ⟨fm0 _ (by decide), fm1 _ (by decide)⟩
  · simp (decide := true) [hb]
    rw [sat_bind]
    refine sat_for (fun i : Nat => D.int i) (fun rest s => ∃ (n : Int) (sl : Slot), sl.pin = false ∧ 0 ≤ n ∧ n < 2147483579 ^ (24 - rest.length) ∧ rest.length ≤ 24 ∧ s = [.sh (.scr ns), .sh (.int k), .sh (.int c), .sh (.int n), sl]) rfl ⟨0, .no, rfl, by decide, by simp, by simp, rfl⟩ (fun x xs s hx ⟨n, sl, hsl, h2, h3, h4, hs⟩ => ?_) fun s ⟨n, sl, hsl, h2, h3, h4, hs⟩ => ?_
    · subst hs
      have hx24 : x < 24 := List.mem_range.mp (hx.subset (by simp))
      have e24 : 24 - xs.length = (24 - (x :: xs).length) + 1 := by simp at h4 ⊢; omega
      have hb : (n + 1) * 2147483579 ≤ 2147483579 ^ (24 - xs.length) := by
        rw [e24, Int.pow_succ]
        exact Int.mul_le_mul_of_nonneg_right (by omega) (by decide)
      have hle : (2147483579 : Int) ^ (24 - (x :: xs).length) ≤ 2 ^ 800 := by
        have e : (2147483579 : Int) ^ (24 - (x :: xs).length) = ((2147483579 ^ (24 - (x :: xs).length) : Nat) : Int) := by simp
        have h5 : 2147483579 ^ (24 - (x :: xs).length) ≤ 2147483579 ^ 24 := Nat.pow_le_pow_right (by decide) (by omega)
        have h6 : (2147483579 : Nat) ^ 24 ≤ 2 ^ 800 := by decide
        rw [e]
        exact_mod_cast Nat.le_trans h5 h6
      have m6 : DL.MulOk n 2147483579 := mulOk_of (n := 800) (m := 40) (by omega) (by decide) (by decide)
      have m7 : DL.MulOk 100 x := mulOk_of (n := 40) (m := 40) (by decide) (by omega) (by decide)
      have m8 : DL.MulOk x x := mulOk_of (n := 40) (m := 40) (by omega) (by omega) (by decide)
      have hxx : (x : Int) * x ≤ 24 * 24 := Int.mul_le_mul (by omega) (by omega) (by omega) (by omega)
      have hx0 : 0 ≤ (x : Int) * x := Int.mul_nonneg (by omega) (by omega)
      obtain ⟨_, hm, v, rfl, hv0, hv1⟩ := mixed_sp c (7 * k + 100 * x + x * x) (by omega) (by omega)
      simp [hsl, m5, m6, m7, m8, hm]
      have h4' : xs.length ≤ 24 := by simp at h4; omega
      exact ⟨_, _, pin_sh _, by omega, by omega, h4', rfl, rfl⟩
    · subst hs
      simp
      refine ⟨h2, ?_⟩
      simp at h3
      exact Int.lt_trans h3 (by decide)

theorem take_sp (p k : Int) (h0 : 0 < k) (h1 : k < 1000000) : runD d__law_take [.ow true (.l [.int p]), .sh (.int k)] = .ok (.int (p.fmod k)) [.ow true (.l [.int (p.fdiv k)]), .no] := by
  have d : DivOk p k := divOk_of (n := 40) (by omega) (by omega) (by decide)
  have nz : k ≠ 0 := by omega
  refine runD_of ?_
  simp [m__law_take, d, nz]
/-- a digit taken: it is below the size, and a pile is left -/
theorem take_ex (p k : Int) (h0 : 0 < k) (h1 : k < 1000000) : ∃ g p' : Int, 0 ≤ g ∧ g < k ∧ runD d__law_take [.ow true (.l [.int p]), .sh (.int k)] = .ok (.int g) [.ow true (.l [.int p']), .no] :=
  ⟨_, _, fm0 p h0, fm1 p h0, take_sp p k h0 h1⟩
def pw (d : Int) : List P3 := if d = 1 then box1 else if d = 2 then box2 else box
theorem powers_sp (d : Int) (h1 : 1 ≤ d) (h3 : d ≤ 3) : runD d__law_powers [.sh (.int d)] = .ok (.lst ((pw d).map pD)) [.no] := by
  have : d = 1 ∨ d = 2 ∨ d = 3 := by omega
  rcases this with rfl | rfl | rfl <;> rfl
theorem pw_nodup (d : Int) : (pw d).Nodup := by
  unfold pw
  split
  · decide
  · split <;> decide
theorem pw_len (d : Int) : (pw d).length ≤ 10 := by
  unfold pw
  split
  · decide
  · split <;> decide
theorem pw_hom (d : Int) (h1 : 1 ≤ d) (h3 : d ≤ 3) : ∀ p ∈ pw d, 0 ≤ p.1 ∧ 0 ≤ p.2.1 ∧ 0 ≤ p.2.2 ∧ p.1 + p.2.1 + p.2.2 = d := by
  have : d = 1 ∨ d = 2 ∨ d = 3 := by omega
  rcases this with rfl | rfl | rfl <;> decide
theorem form_sp (p d m : Int) (h1 : 1 ≤ d) (h3 : d ≤ 3) (hm : 0 < m) (hm2 : m < 10000) : ∃ v os, runD d__law_form [.ow true (.l [.int p]), .sh (.int d), .sh (.int m)] = .ok v os ∧ ∃ (t : Tb) (p' : Int), v = .dT (tbl t) ∧ os = [.ow true (.l [.int p']), .no, .no] ∧ Ok d m.natAbs t := by
  refine runD_ex2 ?_
  have m1 : DL.MulOk 2 m := mulOk_of (n := 40) (m := 40) (by decide) (by omega) (by decide)
  simp [m__law_form, powers_sp d h1 h3]
  rw [sat_bind]
  obtain ⟨I, hI⟩ : ∃ I : List P3 → DS → Prop, ∀ rest s, I rest s ↔ ∃ (p : Int) (t : Tb) (sl sl2 : Slot), sl.pin = false ∧ sl2.pin = false ∧ (keys t).Nodup ∧ (∀ x ∈ t, x.2 ≠ 0 ∧ x.2.natAbs ≤ m.natAbs) ∧ (∀ q ∈ keys t, q ∈ pw d ∧ q ∉ rest) ∧ s = [.ow true (.l [.int p]), .sh (.int d), .sh (.int m), .ow false (.T (tbl t)), sl, sl2] := ⟨_, fun _ _ => Iff.rfl⟩
  refine sat_for pD I rfl ((hI _ _).mpr ⟨p, [], .no, .no, rfl, rfl, by simp [keys], by simp, by simp [keys], rfl⟩) (fun x xs s hx h => ?_) fun s h => ?_
  · obtain ⟨p, t, sl, sl2, hs1, hs2, nd, hb, hk, hs⟩ := (hI _ _).mp h
    subst hs
    obtain ⟨g, p1, hg0, hg1, t1⟩ := take_ex p (2 * m + 1) (by omega) (by omega)
    obtain ⟨g2, p2, hg20, hg21, t2⟩ := take_ex p1 3 (by omega) (by omega)
    have hk2 : ∀ q ∈ keys t, q ∈ pw d ∧ q ∉ xs := fun q hq => ⟨(hk q hq).1, fun z => (hk q hq).2 (by simp [z])⟩
    have xnd : x ∉ xs := by
      have := (List.Sublist.nodup hx.sublist (pw_nodup d))
      exact (List.nodup_cons.mp this).1
    have ek : keys (put t x (g - m)) = keys t ++ [x] := by
      rw [keys_put, if_neg fun z => (hk x z).2 (by simp)]
    have hl : t.length < sizeLine := by
      have h1 := len_sub nd fun q hq => (hk2 q hq).1
      have h2 := pw_len d
      rw [keys_len] at h1
      unfold sizeLine
      omega
    by_cases z1 : g - m = 0
    · simp [hs1, hs2, m1, t1, z1]
      exact (hI _ _).mpr ⟨_, _, _, _, pin_sh _, pin_sh _, nd, hb, hk2, rfl⟩
    · by_cases z2 : 0 < g2
      · simp [hs1, hs2, m1, t1, t2, z1, z2, hl]
        refine (hI _ _).mpr ⟨_, _, _, _, pin_sh _, pin_sh _, nd_put nd x (g - m), fun y hy => ?_, fun q hq => ?_, rfl⟩
        · rcases mem_put hy with rfl | hy
          · dsimp only; omega
          · exact hb y hy
        · rw [ek] at hq
          rcases List.mem_append.mp hq with hq | hq
          · exact hk2 q hq
          · have : q = x := by simpa using hq
            subst this
            exact ⟨hx.subset (by simp), xnd⟩
      · simp [hs1, hs2, m1, t1, t2, z1, z2]
        exact (hI _ _).mpr ⟨_, _, _, _, pin_sh _, pin_sh _, nd, hb, hk2, rfl⟩
  · obtain ⟨p, t, sl, sl2, hs1, hs2, nd, hb, hk, hs⟩ := (hI _ _).mp h
    subst hs
    cases t with
    | nil =>
      simp
      refine ⟨_, rfl, ?_⟩
      have e : put [] (d, 0, 0) 1 = [((d, 0, 0), 1)] := rfl
      rw [e]
      refine ⟨⟨by simp [keys], by simp⟩, by simp, by simp [keys]; omega, by simp; omega⟩
    | cons y t =>
      simp
      exact ⟨_, rfl, ⟨nd, fun x hx => (hb x hx).1⟩, by simp, fun q hq => pw_hom d h1 h3 q (hk q hq).1, fun x hx => (hb x hx).2⟩

theorem gcd_loop (a b : Nat) (p : Fl → DS → Prop) (h : p .nx [.sh (.int (Nat.gcd a b)), .sh (.int 0)]) : Sat (sWhile (DL.tB (eOp2 gtD (aVar 1) (aOf (eC (.int 0))))) (sPar 0 1 (asCons (aOf (eVar 1)) (asCons (aOf (eOp2 modD (aVar 0) (aVar 1))) asNil))) [.sh (.int a), .sh (.int b)]) p := by
  refine sat_while (fun y s => ∃ x : Nat, Nat.gcd x y = Nat.gcd a b ∧ s = [.sh (.int x), .sh (.int y)]) (n := b) ⟨a, rfl, rfl⟩ fun y s ⟨x, hg, hs⟩ => ?_
  subst hs
  by_cases hy : 0 < y
  · have hy2 : ¬(y = 0) := by omega
    have e : ((x : Int)).fmod y = ((x % y : Nat) : Int) := by
      rw [Int.fmod_eq_emod_of_nonneg _ (by omega)]; rfl
    simp [hy, hy2]
    refine ⟨x % y, Nat.mod_lt _ hy, y, ?_, rfl, by rw [e]⟩
    rw [← hg, Nat.gcd_comm x y, Nat.gcd_rec y x, Nat.gcd_comm]
  · have hy2 : y = 0 := by omega
    subst hy2
    simp
    rw [← hg] at h
    simpa using h
theorem common_sp (a b : Int) : runD d_common [.sh (.int a), .sh (.int b)] = .ok (.int (Int.gcd a b)) [.no, .no] := by
  refine runD_of ?_
  simp [m_common]
  rw [sat_bind]
  exact gcd_loop _ _ _ (by simp [Int.gcd])
theorem lcommon_sp (a b : Int) : runD d__law_common [.sh (.int a), .sh (.int b)] = .ok (.int (Int.gcd a b)) [.no, .no] := by
  refine runD_of ?_
  simp [m__law_common]
  rw [sat_bind]
  exact gcd_loop _ _ _ (by simp [Int.gcd])
theorem isnum_sp (n : Int) : runD d_is_number [.sh (.int n)] = .ok (.bl true) [.no] := by
  refine runD_of ?_
  simp [m_is_number]
def shareL (ns : List Int) : Nat := ns.foldl (fun g n => Nat.gcd g n.natAbs) 0
theorem share_eq (t : Tb) : shareL (t.map (·.2)) = share t := by
  unfold shareL share
  rw [List.foldl_map]
theorem common_of_sp (ns : List Int) (x : D) (hx : x = .lst (ns.map D.int) ∨ x = .tup (ns.map D.int)) : runD d_common_of [.sh x] = .ok (.int (shareL ns)) [.no] := by
  have key : ∀ x : D, Sat (forM (gNm 2) (sSet 1 (eFn d_common (asCons (aVar 1) (asCons (aVar 2) asNil)))) (ns.map D.int) [.sh x, .sh (.int 0), .no]) fun fl s => fl = .nx ∧ ∃ sl, sl.pin = false ∧ s = [.sh x, .sh (.int (shareL ns)), sl] := by
    intro x
    obtain ⟨I, hI⟩ : ∃ I : List Int → DS → Prop, ∀ rest s, I rest s ↔ ∃ (g : Nat) (sl : Slot), sl.pin = false ∧ rest.foldl (fun g n => Nat.gcd g n.natAbs) g = shareL ns ∧ s = [.sh x, .sh (.int g), sl] := ⟨_, fun _ _ => Iff.rfl⟩
    refine sat_for D.int I rfl ((hI _ _).mpr ⟨0, .no, rfl, rfl, rfl⟩) (fun n xs s hx h => ?_) fun s h => ?_
    · obtain ⟨g, sl, hs1, hg, hs⟩ := (hI _ _).mp h
      subst hs
      have e : Int.gcd (g : Int) n = Nat.gcd g n.natAbs := by simp [Int.gcd]
      simp [hs1, common_sp, e]
      exact (hI _ _).mpr ⟨_, _, pin_sh _, hg, rfl⟩
    · obtain ⟨g, sl, hs1, hg, hs⟩ := (hI _ _).mp h
      subst hs
      exact ⟨rfl, sl, hs1, by rw [← hg]; rfl⟩
  refine runD_of ?_
  rcases hx with rfl | rfl
  · obtain ⟨fl, s, e, rfl, sl, hs1, rfl⟩ := (key (.lst (ns.map D.int))).of
    refine sat_seq [.sh _, .sh (.int 0), .no] rfl ?_
    refine sat_seq _ e ?_
    simp
  · obtain ⟨fl, s, e, rfl, sl, hs1, rfl⟩ := (key (.tup (ns.map D.int))).of
    refine sat_seq [.sh _, .sh (.int 0), .no] rfl ?_
    refine sat_seq _ e ?_
    simp
theorem is_term_sp (x : P3 × Int) (h1 : 0 ≤ x.1.1) (h2 : 0 ≤ x.1.2.1) (h3 : 0 ≤ x.1.2.2) (h4 : 1 ≤ x.1.1 + x.1.2.1 + x.1.2.2) (h5 : x.1.1 + x.1.2.1 + x.1.2.2 ≤ 3) (nz : x.2 ≠ 0) : runD d_is_term [.sh (tmD x)] = .ok (.bl true) [.no] := by
  refine runD_of ?_
  have e1 : x.1.1 + (x.1.2.1 + x.1.2.2) = x.1.1 + x.1.2.1 + x.1.2.2 := by omega
  have e2 : 0 ≤ min x.1.1 (min x.1.2.1 x.1.2.2) := by omega
  simp (decide := true) [m_is_term, tmD, pD, isnum_sp, lcRun, lcM, nz, bestI, e1, e2, h4, h5, sliceD, DL.cutD, HT.sIx]

def numT : Nat → Tb → List (Nat × (P3 × Int))
  | _, [] => []
  | n, x :: t => (n, x) :: numT (n + 1) t
theorem enumL_map : ∀ (t : Tb) (k : Nat), enumL k (t.map tmD) = (numT k t).map fun nx => .tup [.int nx.1, tmD nx.2]
  | [], _ => rfl
  | x :: t, k => by simp [numT, enumL, enumL_map t (k + 1)]
theorem numT_snd : ∀ (t : Tb) (k : Nat), (numT k t).map (·.2) = t
  | [], _ => rfl
  | x :: t, k => by simp [numT, numT_snd t (k + 1)]
theorem look_sp {d : Int} {B : Nat} {t : Tb} (o : Ok d B t) (h1 : 1 ≤ d) (h3 : d ≤ 3) : runD d_look_at_terms [.sh (.lst (t.map tmD))] = .ok .non [.no] := by
  refine runD_of ?_
  have hl := o.len h1 h3
  have hn : 0 < t.length := by
    have := o.ne
    cases t with
    | nil => exact absurd rfl this
    | cons x t => simp
  have hok : DL.sizeOk t.length := by unfold DL.sizeOk sizeLine; omega
  have l1 : ¬((t.length : Int) < 1) := by omega
  have l2 : ¬((10 : Int) < (t.length : Int)) := by omega
  obtain ⟨y0, t0, et⟩ : ∃ y0 t0, t = y0 :: t0 := by
    cases t with
    | nil => simp at hn
    | cons x t => exact ⟨x, t, rfl⟩
  have hy0 : (t.map tmD)[0]? = some (tmD y0) := by rw [et]; rfl
  have hs0 : y0.1.1 + y0.1.2.1 + y0.1.2.2 = d := (o.hom y0.1 (by rw [et]; simp [keys])).2.2.2
  have hyn : ((t.map tmD)[0]?) = some (tmD y0) := hy0
  refine sat_seq [.sh (.lst (t.map tmD)), .no, .no, .no] (by simp (decide := true) [isiT2, isiT, tyN, subT, hok, l1, l2]) ?_
  refine sat_seq [.sh (.lst (t.map tmD)), .ow false (.l []), .no, .no] (by simp) ?_
  show Sat (forM _ _ _ _) _
  rw [enumL_map]
  obtain ⟨I, hI⟩ : ∃ I : List (Nat × (P3 × Int)) → DS → Prop, ∀ rest s, I rest s ↔ ∃ (done : Tb) (sl sl2 : Slot), sl.pin = false ∧ sl2.pin = false ∧ done ++ rest.map (·.2) = t ∧ s = [.sh (.lst (t.map tmD)), .ow false (.l ((keys done).map pD)), sl, sl2] := ⟨_, fun _ _ => Iff.rfl⟩
  refine sat_for (fun nx => .tup [.int nx.1, tmD nx.2]) I rfl ((hI _ _).mpr ⟨[], .no, .no, rfl, rfl, by simp [numT_snd], rfl⟩) (fun x xs s hx h => ?_) fun s h => ?_
  · obtain ⟨done, sl, sl2, hs1, hs2, hd, hs⟩ := (hI _ _).mp h
    subst hs
    obtain ⟨n, y⟩ := x
    have hy : y ∈ t := by rw [← hd]; simp
    have hh := o.hom y.1 (List.mem_map_of_mem (f := (·.1)) hy)
    have ht := is_term_sp y hh.1 hh.2.1 hh.2.2.1 (by omega) (by omega) (o.gd.nz y hy)
    have hdl : (keys done).length ≤ 1000 := by
      have : done.length ≤ t.length := by rw [← hd]; simp
      rw [keys_len]; omega
    have hdn : y.1 ∉ keys done := by
      have nd := o.gd.nd
      rw [← hd] at nd
      unfold keys at nd ⊢
      rw [List.map_append, List.nodup_append] at nd
      intro z
      exact nd.2.2 _ z _ (by simp) rfl
    have hin := inB_pD y.1 (keys done) hdl
    have hs3 : y.1.1 + y.1.2.1 + y.1.2.2 = d := hh.2.2.2
    have hdl2 : (keys done).length < sizeLine := by unfold sizeLine; omega
    have hd0 := hyn
    simp [hs1, hs2, ht, hin, hdn, hs3, hs0, hy0, hdl2, -sumD_sq]
    rw [hI]
    exact ⟨done ++ [y], .sh (.int n), .sh (tmD y), pin_sh _, pin_sh _, by simpa using hd, by simp [keys]⟩
  · obtain ⟨done, sl, sl2, hs1, hs2, hd, hs⟩ := (hI _ _).mp h
    subst hs
    simp
def cvF (d : Int) (t : Tb) : List (Str × D) := [("degree", .int d), ("terms", .tup (t.map tmD))]
def cvD (d : Int) (t : Tb) : D := .obj "Curve" (cvF d t)
theorem init_sp {d : Int} {B : Nat} {t : Tb} (o : Ok d B t) (h1 : 1 ≤ d) (h3 : d ≤ 3) (hB : B < 2 ^ 2000) : runD d_Curve_init [.ow true (.o "Curve" []), .sh (.lst (t.map tmD))] = .ok .non [.ow true (.o "Curve" (cvF d (norm t))), .no] := by
  refine runD_of ?_
  have hl := o.len h1 h3
  have hl1 : t.length ≤ sizeLine := by unfold sizeLine; omega
  have hl2 : t.length ≤ 1000 := by omega
  obtain ⟨y0, t0, et⟩ : ∃ y0 t0, t = y0 :: t0 := by
    cases t with
    | nil => exact absurd rfl o.ne
    | cons x t => exact ⟨x, t, rfl⟩
  have hy0 : (t.map tmD)[0]? = some (tmD y0) := by rw [et]; rfl
  have hy1 : ixD (.lst (t.map tmD)) (.int 0) = some (tmD y0) := by simp [ixD, hy0]
  have hs0 : y0.1.1 + y0.1.2.1 + y0.1.2.2 = d := (o.hom y0.1 (by rw [et]; simp [keys])).2.2.2
  obtain ⟨z0, u0, eu⟩ : ∃ z0 u0, sorted t = z0 :: u0 := by
    cases e : sorted t with
    | nil => exact absurd e (sorted_ne o.ne)
    | cons x t => exact ⟨x, t, rfl⟩
  have hz0 : ((sorted t).map tmD)[0]? = some (tmD z0) := by rw [eu]; rfl
  have hz1 : ixD (.lst ((sorted t).map tmD)) (.int 0) = some (tmD z0) := by simp [ixD, hz0]
  have hdiv : div t = if z0.2 < 0 then 0 - (share t : Int) else (share t : Int) := by
    unfold div sgn
    rw [eu]
    dsimp only
    split <;> omega
  have hsp : 0 < share t := share_pos o.gd o.ne
  have hsb : share t ≤ B := by
    have h := share_dvd (t := t) (x := y0) (by rw [et]; simp)
    have h0 := o.gd.nz y0 (by rw [et]; simp)
    exact Nat.le_trans (Nat.le_of_dvd (by omega) h) (o.bd y0 (by rw [et]; simp))
  have hdk : ∀ n : Int, DivOk n (div t) := fun n => divOk_of (n := 2000) (div_ne o.gd o.ne) (by rw [div_natAbs]; omega) (by decide)
  have hc := common_of_sp (t.map (·.2)) (.lst ((t.map (·.2)).map D.int)) (.inl rfl)
  rw [share_eq, List.map_map] at hc
  have sl : (sorted t).length ≤ sizeLine := by rw [(sorted_perm t).length_eq]; exact hl1
  refine sat_seq [.ow true (.o "Curve" []), .sh (.lst (t.map tmD)), .no, .no, .no] (by simp [look_sp o h1 h3]) ?_
  refine sat_seq [.ow true (.o "Curve" [("degree", .int d)]), .sh (.lst (t.map tmD)), .no, .no, .no] (by simp [hy1, hs0, -sumD_sq, -ixD_sq]) ?_
  refine sat_seq [.ow true (.o "Curve" [("degree", .int d)]), .sh (.lst (t.map tmD)), .sh (.int (share t)), .no, .no] ?_ ?_
  · have e := lc_m (vs := [4]) (g := gNm 4) (e := eOp2 ixD (aVar 4) (aOf (eC (.int 3)))) tmD (fun x => D.int x.2) (ts0 := t) (s0 := [.ow true (.o "Curve" [("degree", .int d)]), .sh (.lst (t.map tmD)), .no, .no, .no]) rfl rfl hl1 (fun x hx => ⟨_, rfl, by simp [-ixD_sq], rfl⟩)
    simp [e]
    have : (fun x : P3 × Int => D.int x.2) = D.int ∘ (fun x => x.2) := rfl
    rw [this, hc]
    simp
  refine sat_seq [.ow true (.o "Curve" [("degree", .int d)]), .sh (.lst (t.map tmD)), .sh (.int (share t)), .sh (.lst ((sorted t).map tmD)), .no] (by simp [sortD_tm hl2 o.gd.nd, -sortD_sq]) ?_
  refine sat_seq [.ow true (.o "Curve" [("degree", .int d)]), .sh (.lst (t.map tmD)), .sh (.int (div t)), .sh (.lst ((sorted t).map tmD)), .no] ?_ ?_
  · rw [hdiv]
    by_cases h : z0.2 < 0
    · simp [hz1, h, -ixD_sq]
    · simp [hz1, h, -ixD_sq]
  have e := lc_m (vs := [4]) (g := gNm 4) (e := eOp2 addD (aOf (eSl (aVar 4) oNone (oSome (eC (.int 3))))) (aOf (eTup (asCons (aOf (eOp2 divD (aOf (eOp2 ixD (aVar 4) (aOf (eC (.int 3))))) (aVar 2))) asNil)))) tmD (fun x => tmD (x.1, x.2.fdiv (div t))) (ts0 := sorted t) (s0 := [.ow true (.o "Curve" [("degree", .int d)]), .sh (.lst (t.map tmD)), .sh (.int (div t)), .sh (.lst ((sorted t).map tmD)), .no]) rfl rfl sl (fun x hx => ⟨_, rfl, by simp [hdk, add_tm, -addD_sq, -ixD_sq], rfl⟩)
  simp [e]
  simp [cvF, norm]
  rw [if_neg (by decide)]
  rfl

theorem Ok.size {d : Int} {B : Nat} {t : Tb} (o : Ok d B t) (h1 : 1 ≤ d) (h3 : d ≤ 3) : t.length ≤ sizeLine := by
  have := o.len h1 h3
  unfold sizeLine; omega
theorem made_sp {d : Int} {B : Nat} {t : Tb} (o : Ok d B t) (h1 : 1 ≤ d) (h3 : d ≤ 3) (hB : B < 2 ^ 2000) : runD d__law_made [.sh (.dT (tbl t))] = .ok (cvD d (norm t)) [.no] := by
  refine runD_of ?_
  have e := lc_m (vs := [1]) (g := gNm 1) (e := eOp2 addD (aVar 1) (aOf (eTup (asCons (aOf (eOp2 ixD (aVar 0) (aVar 1))) asNil)))) (fun x => pD x.1) tmD (ts0 := t) (items := (keys t).map pD) (s0 := [.sh (.dT (tbl t)), .no]) (by simp [keys]) rfl (Ok.size o h1 h3) (fun x hx => ⟨_, rfl, by simp [ix_tbl o.gd.nd hx, add_tm, -addD_sq, -ixD_sq], rfl⟩)
  have w := walk_dict (i := 0) (s := [.sh (.dT (tbl t)), .no]) rfl e
  simp [m__law_made, w, -walkS_ap, init_sp o h1 h3 hB, cvD]
theorem curve_of_sp {d : Int} {B : Nat} {t : Tb} (o : Ok d B t) (h1 : 1 ≤ d) (h3 : d ≤ 3) (hB : B < 2 ^ 2000) : runD d_curve_of [.sh (.dT (tbl t))] = .ok (cvD d (norm t)) [.no] := by
  refine runD_of ?_
  have e := lc_m (vs := [1]) (g := gNm 1) (e := eOp2 addD (aVar 1) (aOf (eTup (asCons (aOf (eOp2 ixD (aVar 0) (aVar 1))) asNil)))) (fun x => pD x.1) tmD (ts0 := t) (items := (keys t).map pD) (s0 := [.sh (.dT (tbl t)), .no]) (by simp [keys]) rfl (Ok.size o h1 h3) (fun x hx => ⟨_, rfl, by simp [ix_tbl o.gd.nd hx, add_tm, -addD_sq, -ixD_sq], rfl⟩)
  have w := walk_dict (i := 0) (s := [.sh (.dT (tbl t)), .no]) rfl e
  simp [m_curve_of, w, -walkS_ap, init_sp o h1 h3 hB, cvD]
theorem kept_sp {d : Int} {B : Nat} {t : Tb} (o : Ok d B t) (h1 : 1 ≤ d) (h3 : d ≤ 3) (hB : B < 2 ^ 2000) : runD d__law_kept [.sh (.dT (tbl t))] = .ok (.tup ((norm t).map tmD)) [.no] := by
  refine runD_of ?_
  have hl := o.len h1 h3
  have hl2 : t.length ≤ 1000 := by omega
  obtain ⟨y0, t0, et⟩ : ∃ y0 t0, t = y0 :: t0 := by
    cases t with
    | nil => exact absurd rfl o.ne
    | cons x t => exact ⟨x, t, rfl⟩
  obtain ⟨z0, u0, eu⟩ : ∃ z0 u0, sorted t = z0 :: u0 := by
    cases e : sorted t with
    | nil => exact absurd e (sorted_ne o.ne)
    | cons x t => exact ⟨x, t, rfl⟩
  have hz : z0 ∈ t := sorted_mem.mp (by rw [eu]; simp)
  have hz0 : ((keys (sorted t)).map pD)[0]? = some (pD z0.1) := by rw [eu]; rfl
  have hdiv : div t = if z0.2 < 0 then 0 - (share t : Int) else (share t : Int) := by
    unfold div sgn
    rw [eu]
    dsimp only
    split <;> omega
  have hsb : share t ≤ B := by
    have h := share_dvd (t := t) (x := y0) (by rw [et]; simp)
    have h0 := o.gd.nz y0 (by rw [et]; simp)
    exact Nat.le_trans (Nat.le_of_dvd (by omega) h) (o.bd y0 (by rw [et]; simp))
  have hdk : ∀ n : Int, DivOk n (div t) := fun n => divOk_of (n := 2000) (div_ne o.gd o.ne) (by rw [div_natAbs]; omega) (by decide)
  have sl : (sorted t).length ≤ sizeLine := by rw [(sorted_perm t).length_eq]; exact Ok.size o h1 h3
  refine sat_seq [.sh (.dT (tbl t)), .sh (.int 0), .no, .no] (by simp) ?_
  rw [sSeq_ap, sat_bind]
  refine for_dict (t := t) rfl ?_
  obtain ⟨I, hI⟩ : ∃ I : List (P3 × Int) → DS → Prop, ∀ rest s, I rest s ↔ ∃ (g : Nat) (sl : Slot), sl.pl = true ∧ rest.foldl (fun g x => Nat.gcd g x.2.natAbs) g = share t ∧ s = [.sh (.dT (tbl t)), .sh (.int g), sl, .no] := ⟨_, fun _ _ => Iff.rfl⟩
  refine sat_for (fun x => pD x.1) I (ts0 := t) (by simp [keys]) ((hI _ _).mpr ⟨0, .no, rfl, rfl, rfl⟩) (fun x xs s hx h => ?_) fun s h => ?_
  · obtain ⟨g, sl, hs1, hg, hs⟩ := (hI _ _).mp h
    subst hs
    have hs2 := pl_pin hs1
    have e : Int.gcd (g : Int) x.2 = Nat.gcd g x.2.natAbs := by simp [Int.gcd]
    have hx2 := ix_tbl o.gd.nd (hx.subset (show x ∈ x :: xs by simp))
    simp [hs2, lcommon_sp, e, hx2, -ixD_sq]
    exact (hI _ _).mpr ⟨_, _, pl_sh _, hg, rfl⟩
  · obtain ⟨g, sl, hs1, hg, hs⟩ := (hI _ _).mp h
    have hg2 : g = share t := hg
    subst hs hg2
    show Sat (sSeq _ _ _) _
    refine sat_seq [.sh (.dT (tbl t)), .sh (.int (share t)), sl, .sh (.lst ((keys (sorted t)).map pD))] (by simp [sortD_tup hl2, -sortD_sq]) ?_
    refine sat_seq [.sh (.dT (tbl t)), .sh (.int (div t)), sl, .sh (.lst ((keys (sorted t)).map pD))] ?_ ?_
    · have hx2 := ix_tbl o.gd.nd hz
      have hz1 : ixD (.lst ((keys (sorted t)).map pD)) (.int 0) = some (pD z0.1) := by simp [ixD, hz0]
      rw [hdiv]
      by_cases h : z0.2 < 0
      · simp [hz1, h, hx2, -ixD_sq]
      · simp [hz1, h, hx2, -ixD_sq]
    have e := lc_m (vs := [2]) (g := gNm 2) (e := eOp2 addD (aVar 2) (aOf (eTup (asCons (aOf (eOp2 divD (aOf (eOp2 ixD (aVar 0) (aVar 2))) (aVar 1))) asNil)))) (fun x => pD x.1) (fun x => tmD (x.1, x.2.fdiv (div t))) (ts0 := sorted t) (items := (keys (sorted t)).map pD) (s0 := [.sh (.dT (tbl t)), .sh (.int (div t)), sl, .sh (.lst ((keys (sorted t)).map pD))]) (by simp [keys]) (okOwn_pl (by simp [hs1])) (by assumption) (fun x hx => ⟨[.sh (.dT (tbl t)), .sh (.int (div t)), .sh (pD x.1), .sh (.lst ((keys (sorted t)).map pD))], by simp, by simp [hdk, add_tm, ix_tbl o.gd.nd (sorted_mem.mp hx), -addD_sq, -ixD_sq], by simp⟩)
    simp [e]
    simp [norm]

theorem len_put (t : Tb) (p : P3) (n : Int) : (put t p n).length ≤ t.length + 1 := by
  unfold put
  split <;> simp
theorem raw_cons (acc : Tb) (a : P3 × Int) (t u : Tb) : raw acc (a :: t) u = raw (row acc a u) t u := rfl
theorem row_cons (acc : Tb) (a b : P3 × Int) (u : Tb) : row acc a (b :: u) = row (addT acc (add3 a.1 b.1) (a.2 * b.2)) a u := rfl
theorem filt_sp {t : Tb} (nd : (keys t).Nodup) (hl : t.length ≤ 1000) {vs i j : Nat} {s : DS} (hi : s[i]? = some (.sh (.dT (tbl t)))) (hij : i ≠ j) (hj : ∃ x, s[j]? = some x ∧ x.pl = true) : walkS i (lcRun [j] (gNm j) (tB (eOp2 neD (aOf (eOp2 ixD (aVar i) (aVar j))) (aOf (eC (.int 0))))) (eTup (asCons (aOf (eVar j)) (asCons (aOf (eOp2 ixD (aVar i) (aVar j))) asNil)))) s = .ok (.l ((thin t).map DL.prD)) s := by
  refine walk_dict hi ?_
  have hjl : j < s.length := by
    obtain ⟨x, e, _⟩ := hj
    exact (List.getElem?_eq_some_iff.mp e).1
  have hji : ¬(j = i) := fun z => hij z.symm
  refine lc_fil (fun x => pD x.1) (fun x => decide (x.2 ≠ 0)) DL.prD (vs := [j]) (s0 := s) (ts0 := t) (items := (keys t).map pD) (by simp [keys]) (okOwn_pl (s := s) (vs := [j]) (by simpa using hj)) (by unfold sizeLine; omega) fun x hx => ?_
  obtain ⟨s', hs'⟩ : ∃ s', s' = s.set j (.sh (pD x.1)) := ⟨_, rfl⟩
  have hi' : s'[i]? = some (.sh (.dT (tbl t))) := by rw [hs', List.getElem?_set_ne hji]; exact hi
  have hj' : s'[j]? = some (.sh (pD x.1)) := by rw [hs']; simp [hjl]
  have hw : wipeD s' [j] = wipeD s [j] := by rw [hs']; simp
  refine ⟨s', by rw [hs']; simp [hjl], s', ?_, hw, fun _ => ⟨s', ?_, hw⟩⟩
  · simp [hi', hj', ix_tbl nd hx, -ixD_sq]
  · simp [hi', hj', ix_tbl nd hx, -ixD_sq, DL.prD]
theorem thin_len (t : Tb) : (thin t).length ≤ t.length := List.length_filter_le _ _
theorem thinned_sp {t : Tb} (nd : (keys t).Nodup) (hl : t.length ≤ 1000) : runD d_thinned [.sh (.dT (tbl t))] = .ok (.dT (tbl (thin t))) [.no] := by
  refine runD_of ?_
  have e := filt_sp nd hl (vs := 0) (i := 0) (j := 1) (s := [.sh (.dT (tbl t)), .no]) rfl (by decide) ⟨_, rfl, rfl⟩
  have hd := dictT_prD (l := thin t) (by have := thin_len t; omega) (nd_thin nd)
  simp [m_thinned, e, hd, -walkS_ap, -dictT_sq]
theorem lproduct_g {t u : Tb} (nt : (keys t).Nodup) (nu : (keys u).Nodup) (hl : t.length ≤ 10) (hm : u.length ≤ 10) (mk : ∀ a ∈ t, ∀ b ∈ u, DL.MulOk a.2 b.2) : runD d__law_product [.sh (.dT (tbl t)), .sh (.dT (tbl u))] = .ok (.dT (tbl (prod t u))) [.no, .no] := by
  refine runD_of ?_
  have hlm : t.length * u.length ≤ 100 := Nat.le_trans (Nat.mul_le_mul hl hm) (by decide)
  refine sat_seq [.sh (.dT (tbl t)), .sh (.dT (tbl u)), .ow false (.T (tbl [])), .no, .no, .no] rfl ?_
  rw [sSeq_ap, sat_bind]
  refine for_dict (t := t) rfl ?_
  obtain ⟨I, hI⟩ : ∃ I : List (P3 × Int) → DS → Prop, ∀ rest s, I rest s ↔ ∃ (acc : Tb) (s3 s4 s5 : Slot), s3.pl = true ∧ s4.pl = true ∧ s5.pl = true ∧ raw acc rest u = raw [] t u ∧ (keys acc).Nodup ∧ acc.length + rest.length * u.length ≤ t.length * u.length ∧ s = [.sh (.dT (tbl t)), .sh (.dT (tbl u)), .ow false (.T (tbl acc)), s3, s4, s5] := ⟨_, fun _ _ => Iff.rfl⟩
  refine sat_for (fun x => pD x.1) I (ts0 := t) (by simp [keys]) ((hI _ _).mpr ⟨[], .no, .no, .no, rfl, rfl, rfl, rfl, by simp [keys], by simp, rfl⟩) (fun x xs s hx h => ?_) fun s h => ?_
  · obtain ⟨acc, s3, s4, s5, p3, p4, p5, hr, nd, hle, hs⟩ := (hI _ _).mp h
    subst hs
    have hxt : x ∈ t := hx.subset (by simp)
    refine ⟨[.sh (.dT (tbl t)), .sh (.dT (tbl u)), .ow false (.T (tbl acc)), .sh (pD x.1), s4, s5], by simp [pl_pin p3], ?_⟩
    refine for_dict (t := u) rfl ?_
    obtain ⟨J, hJ⟩ : ∃ J : List (P3 × Int) → DS → Prop, ∀ rest s, J rest s ↔ ∃ (acc : Tb) (s4 s5 : Slot), s4.pl = true ∧ s5.pl = true ∧ raw (row acc x rest) xs u = raw [] t u ∧ (keys acc).Nodup ∧ acc.length + rest.length + xs.length * u.length ≤ t.length * u.length ∧ s = [.sh (.dT (tbl t)), .sh (.dT (tbl u)), .ow false (.T (tbl acc)), .sh (pD x.1), s4, s5] := ⟨_, fun _ _ => Iff.rfl⟩
    refine sat_for (fun x => pD x.1) J (ts0 := u) (by simp [keys]) ((hJ _ _).mpr ⟨acc, s4, s5, p4, p5, hr, nd, ?_, rfl⟩) (fun y ys s hy h => ?_) fun s h => ?_
    · rw [List.length_cons, Nat.succ_mul] at hle; omega
    · obtain ⟨acc, s4, s5, p4, p5, hr, nd, hle, hs⟩ := (hJ _ _).mp h
      subst hs
      have hyu : y ∈ u := hy.subset (by simp)
      have hal : (tbl acc).length < sizeLine := by rw [tbl_len]; rw [List.length_cons] at hle; unfold sizeLine; omega
      have hal2 : acc.length < sizeLine := by rwa [tbl_len] at hal
      have m1 := mk x hxt y hyu
      have hx2 := ix_tbl nt hxt
      have hy2 := ix_tbl nu hyu
      refine ⟨[.sh (.dT (tbl t)), .sh (.dT (tbl u)), .ow false (.T (tbl acc)), .sh (pD x.1), .sh (pD y.1), s5], by simp [pl_pin p4], ?_⟩
      refine sat_seq [.sh (.dT (tbl t)), .sh (.dT (tbl u)), .ow false (.T (tbl acc)), .sh (pD x.1), .sh (pD y.1), .sh (pD (add3 x.1 y.1))] (by simp [pl_pin p5, -ixD_sq]; rfl) ?_
      have hg := getM_tbl acc (add3 x.1 y.1)
      simp [hx2, hy2, m1, hal2, hg, -ixD_sq, -getM_sq]
      refine (hJ _ _).mpr ⟨addT acc (add3 x.1 y.1) (x.2 * y.2), .sh (pD y.1), .sh (pD (add3 x.1 y.1)), rfl, rfl, hr, nd_addT nd _ _, ?_, rfl⟩
      have := len_put acc (add3 x.1 y.1) (cf acc (add3 x.1 y.1) + x.2 * y.2)
      rw [List.length_cons] at hle
      unfold addT
      omega
    · obtain ⟨acc, s4, s5, p4, p5, hr, nd, hle, hs⟩ := (hJ _ _).mp h
      exact (hI _ _).mpr ⟨acc, _, s4, s5, pl_sh _, p4, p5, hr, nd, by simpa using hle, hs⟩
  · obtain ⟨acc, s3, s4, s5, p3, p4, p5, hr, nd, hle, hs⟩ := (hI _ _).mp h
    have hr2 : acc = raw [] t u := hr
    have hal : acc.length ≤ 1000 := by simp at hle; omega
    subst hs
    have e := filt_sp nd hal (vs := 0) (i := 2) (j := 5) (s := [.sh (.dT (tbl t)), .sh (.dT (tbl u)), .sh (.dT (tbl acc)), s3, s4, s5]) rfl (by decide) ⟨_, rfl, p5⟩
    have hd := dictT_prD (l := thin acc) (by have := thin_len acc; omega) (nd_thin nd)
    have hp : prod t u = thin acc := by rw [hr2]; rfl
    rw [hp]
    simp [e, hd, -walkS_ap, -dictT_sq]
theorem lproduct_sp {d e : Int} {B C : Nat} {t u : Tb} (o : Ok d B t) (r : Ok e C u) (h1 : 1 ≤ d) (h3 : d ≤ 3) (k1 : 1 ≤ e) (k3 : e ≤ 3) (hB : B < 2 ^ 2000) (hC : C < 2 ^ 2000) : runD d__law_product [.sh (.dT (tbl t)), .sh (.dT (tbl u))] = .ok (.dT (tbl (prod t u))) [.no, .no] :=
  lproduct_g o.gd.nd r.gd.nd (o.len h1 h3) (r.len k1 k3) fun a ha b hb => mulOk_of (n := 2000) (m := 2000) (Nat.lt_of_le_of_lt (o.bd a ha) hB) (Nat.lt_of_le_of_lt (r.bd b hb) hC) (by decide)
theorem added_sp {t : Tb} (hl : t.length < sizeLine) (p : P3) (n : Int) : runD d_added_to [.ow true (.T (tbl t)), .sh (pD p), .sh (.int n)] = .ok .non [.ow true (.T (tbl (addT t p n))), .no, .no] := by
  refine runD_of ?_
  have hg := getM_tbl t p
  simp [m_added_to, hl, hg, -getM_sq, addT]
theorem product_g {t u : Tb} (nt : (keys t).Nodup) (nu : (keys u).Nodup) (hl : t.length ≤ 10) (hm : u.length ≤ 10) (mk : ∀ a ∈ t, ∀ b ∈ u, DL.MulOk a.2 b.2) : runD d_product [.sh (.dT (tbl t)), .sh (.dT (tbl u))] = .ok (.dT (tbl (prod t u))) [.no, .no] := by
  refine runD_of ?_
  have hlm : t.length * u.length ≤ 100 := Nat.le_trans (Nat.mul_le_mul hl hm) (by decide)
  refine sat_seq [.sh (.dT (tbl t)), .sh (.dT (tbl u)), .ow false (.T (tbl [])), .no, .no, .no, .no] rfl ?_
  rw [sSeq_ap, sat_bind]
  refine for_dict (t := t) rfl ?_
  obtain ⟨I, hI⟩ : ∃ I : List (P3 × Int) → DS → Prop, ∀ rest s, I rest s ↔ ∃ (acc : Tb) (s3 s4 s5 : Slot), s3.pl = true ∧ s4.pl = true ∧ s5.pl = true ∧ raw acc rest u = raw [] t u ∧ (keys acc).Nodup ∧ acc.length + rest.length * u.length ≤ t.length * u.length ∧ s = [.sh (.dT (tbl t)), .sh (.dT (tbl u)), .ow false (.T (tbl acc)), s3, s4, s5, .no] := ⟨_, fun _ _ => Iff.rfl⟩
  refine sat_for (fun x => pD x.1) I (ts0 := t) (by simp [keys]) ((hI _ _).mpr ⟨[], .no, .no, .no, rfl, rfl, rfl, rfl, by simp [keys], by simp, rfl⟩) (fun x xs s hx h => ?_) fun s h => ?_
  · obtain ⟨acc, s3, s4, s5, p3, p4, p5, hr, nd, hle, hs⟩ := (hI _ _).mp h
    subst hs
    have hxt : x ∈ t := hx.subset (by simp)
    refine ⟨[.sh (.dT (tbl t)), .sh (.dT (tbl u)), .ow false (.T (tbl acc)), .sh (pD x.1), s4, s5, .no], by simp [pl_pin p3], ?_⟩
    refine for_dict (t := u) rfl ?_
    obtain ⟨J, hJ⟩ : ∃ J : List (P3 × Int) → DS → Prop, ∀ rest s, J rest s ↔ ∃ (acc : Tb) (s4 s5 : Slot), s4.pl = true ∧ s5.pl = true ∧ raw (row acc x rest) xs u = raw [] t u ∧ (keys acc).Nodup ∧ acc.length + rest.length + xs.length * u.length ≤ t.length * u.length ∧ s = [.sh (.dT (tbl t)), .sh (.dT (tbl u)), .ow false (.T (tbl acc)), .sh (pD x.1), s4, s5, .no] := ⟨_, fun _ _ => Iff.rfl⟩
    refine sat_for (fun x => pD x.1) J (ts0 := u) (by simp [keys]) ((hJ _ _).mpr ⟨acc, s4, s5, p4, p5, hr, nd, ?_, rfl⟩) (fun y ys s hy h => ?_) fun s h => ?_
    · rw [List.length_cons, Nat.succ_mul] at hle; omega
    · obtain ⟨acc, s4, s5, p4, p5, hr, nd, hle, hs⟩ := (hJ _ _).mp h
      subst hs
      have hyu : y ∈ u := hy.subset (by simp)
      have hal2 : acc.length < sizeLine := by rw [List.length_cons] at hle; unfold sizeLine; omega
      have m1 := mk x hxt y hyu
      have hx2 := ix_tbl nt hxt
      have hy2 := ix_tbl nu hyu
      refine ⟨[.sh (.dT (tbl t)), .sh (.dT (tbl u)), .ow false (.T (tbl acc)), .sh (pD x.1), .sh (pD y.1), s5, .no], by simp [pl_pin p4], ?_⟩
      have st : sSet 5 (eCall (on1 tupD) (asCons (aOf (eOwn (nLc (rng1D (eCall (on1 lenD) (asCons (aVar 3) asNil))) [6] (gNm 6) tYesD (eOp2 addD (aOf (eOp2 ixD (aVar 3) (aVar 6))) (aOf (eOp2 ixD (aVar 4) (aVar 6))))))) asNil)) [.sh (.dT (tbl t)), .sh (.dT (tbl u)), .ow false (.T (tbl acc)), .sh (pD x.1), .sh (pD y.1), s5, .no] = .ok .nx [.sh (.dT (tbl t)), .sh (.dT (tbl u)), .ow false (.T (tbl acc)), .sh (pD x.1), .sh (pD y.1), .sh (pD (add3 x.1 y.1)), .no] := by
        have hr : rng1D (eCall (on1 lenD) (asCons (aVar 3) asNil)) [.sh (.dT (tbl t)), .sh (.dT (tbl u)), .ow false (.T (tbl acc)), .sh (pD x.1), .sh (pD y.1), s5, .no] = .ok [.int 0, .int 1, .int 2] [.sh (.dT (tbl t)), .sh (.dT (tbl u)), .ow false (.T (tbl acc)), .sh (pD x.1), .sh (pD y.1), s5, .no] := by
          simp [List.range_succ, -lenD_sq]
        have hlc := lc_m (vs := [6]) (g := gNm 6) (e := eOp2 addD (aOf (eOp2 ixD (aVar 3) (aVar 6))) (aOf (eOp2 ixD (aVar 4) (aVar 6)))) D.int (fun k => if k = 0 then D.int (x.1.1 + y.1.1) else if k = 1 then D.int (x.1.2.1 + y.1.2.1) else D.int (x.1.2.2 + y.1.2.2)) (ts0 := [0, 1, 2]) (items := [.int 0, .int 1, .int 2]) (s0 := [.sh (.dT (tbl t)), .sh (.dT (tbl u)), .ow false (.T (tbl acc)), .sh (pD x.1), .sh (pD y.1), s5, .no]) rfl rfl (by decide) (fun k hk => ⟨_, rfl, by
          simp only [List.mem_cons, List.mem_nil_iff, or_false] at hk
          rcases hk with rfl | rfl | rfl <;> simp [-ixD_sq], rfl⟩)
        simp [hr, hlc, pl_pin p5, -rng1D_ap]
        rfl
      rw [seq_eq st]
      have ha := added_sp hal2 (add3 x.1 y.1) (x.2 * y.2)
      simp [hx2, hy2, m1, ha, -ixD_sq]
      refine (hJ _ _).mpr ⟨addT acc (add3 x.1 y.1) (x.2 * y.2), .sh (pD y.1), .sh (pD (add3 x.1 y.1)), rfl, rfl, hr, nd_addT nd _ _, ?_, rfl⟩
      have := len_put acc (add3 x.1 y.1) (cf acc (add3 x.1 y.1) + x.2 * y.2)
      rw [List.length_cons] at hle
      unfold addT
      omega
    · obtain ⟨acc, s4, s5, p4, p5, hr, nd, hle, hs⟩ := (hJ _ _).mp h
      exact (hI _ _).mpr ⟨acc, _, s4, s5, pl_sh _, p4, p5, hr, nd, by simpa using hle, hs⟩
  · obtain ⟨acc, s3, s4, s5, p3, p4, p5, hr, nd, hle, hs⟩ := (hI _ _).mp h
    have hr2 : acc = raw [] t u := hr
    have hal : acc.length ≤ 1000 := by simp at hle; omega
    subst hs
    have e := thinned_sp nd hal
    have hp : prod t u = thin acc := by rw [hr2]; rfl
    rw [hp]
    simp [e]
theorem product_sp {d e : Int} {B C : Nat} {t u : Tb} (o : Ok d B t) (r : Ok e C u) (h1 : 1 ≤ d) (h3 : d ≤ 3) (k1 : 1 ≤ e) (k3 : e ≤ 3) (hB : B < 2 ^ 2000) (hC : C < 2 ^ 2000) : runD d_product [.sh (.dT (tbl t)), .sh (.dT (tbl u))] = .ok (.dT (tbl (prod t u))) [.no, .no] :=
  product_g o.gd.nd r.gd.nd (o.len h1 h3) (r.len k1 k3) fun a ha b hb => mulOk_of (n := 2000) (m := 2000) (Nat.lt_of_le_of_lt (o.bd a ha) hB) (Nat.lt_of_le_of_lt (r.bd b hb) hC) (by decide)
theorem cv_terms (d : Int) (t : Tb) : (cvF d t).lookup ("terms" : Str) = some (.tup (t.map tmD)) := rfl
theorem cv_degree (d : Int) (t : Tb) : (cvF d t).lookup ("degree" : Str) = some (.int d) := rfl
theorem cv_table (d : Int) (t : Tb) : (cvF d t).lookup ("table" : Str) = none := rfl
theorem os_curve : ("Curve" : Str) ∈ osL := by decide
theorem table_sp {d : Int} {t : Tb} (nd : (keys t).Nodup) (hl : t.length ≤ 1000) : runD d_Curve_table [.sh (cvD d t)] = .ok (.dT (tbl t)) [.no] := by
  refine runD_of ?_
  have e := lc_m (vs := [1]) (g := gNm 1) (e := eTup (asCons (aOf (eSl (aVar 1) oNone (oSome (eC (.int 3))))) (asCons (aOf (eOp2 ixD (aVar 1) (aOf (eC (.int 3))))) asNil))) tmD DL.prD (ts0 := t) (s0 := [.sh (cvD d t), .no]) rfl rfl (by unfold sizeLine; omega) (fun x hx => ⟨_, rfl, by simp [-ixD_sq, DL.prD], rfl⟩)
  have hd := dictT_prD (l := t) hl nd
  unfold cvD at *
  simp [m_Curve_table, cv_terms, e, hd, -dictT_sq]
theorem is_curve_sp (d : Int) (t : Tb) : runD d_is_curve [.sh (cvD d t)] = .ok (.bl true) [.no] := by
  refine runD_of ?_
  simp [m_is_curve, cvD, os_curve]
theorem look_curve_sp (d : Int) (t : Tb) : runD d_look_at_curve [.sh (cvD d t)] = .ok .non [.no] := by
  refine runD_of ?_
  simp [m_look_at_curve, is_curve_sp]
theorem eq_sp (d : Int) (t : Tb) : runD d_Curve_eq [.sh (cvD d t), .sh (cvD d t)] = .ok (.bl true) [.no, .no] := by
  refine runD_of ?_
  simp [m_Curve_eq, cvD, cv_terms, os_curve]

theorem pD_mk (a b c : Int) : D.tup [.int a, .int b, .int c] = pD (a, b, c) := rfl
theorem shareL3 (p : P3) : shareL [p.1, p.2.1, p.2.2] = gcd3 p := by simp [shareL, gcd3]
theorem nz_list (w : P3) (h : w ≠ (0, 0, 0)) : ∃ r, (([w.1, w.2.1, w.2.2].filter fun n => decide (n ≠ 0)).map D.int) = .int (lead w) :: r := by
  obtain ⟨a, b, c⟩ := w
  unfold lead
  by_cases za : a = 0
  · by_cases zb : b = 0
    · by_cases zc : c = 0
      · subst za zb zc; exact absurd rfl h
      · subst za zb; simp [zc]
    · subst za; simp [zb]
  · simp [za]
theorem lpoint_pt (w : P3) (h : w ≠ (0, 0, 0)) {B : Nat} (h1 : w.1.natAbs ≤ B) (h2 : w.2.1.natAbs ≤ B) (h3 : w.2.2.natAbs ≤ B) : Pt (pnorm w) ∧ (pnorm w).1.natAbs ≤ B ∧ (pnorm w).2.1.natAbs ≤ B ∧ (pnorm w).2.2.natAbs ≤ B := by
  have hd := pdiv_dvd w
  exact ⟨pt_norm h, Nat.le_trans (fdiv_abs hd.1) h1, Nat.le_trans (fdiv_abs hd.2.1) h2, Nat.le_trans (fdiv_abs hd.2.2) h3⟩
theorem pow_loop (f n : Int) (k : Int) (h0 : 0 ≤ k) (h3 : k ≤ 3) {a b : D} {c e : Slot} {sl : Slot} (hp : sl.pl = true) (hm : ∀ i : Nat, i < 3 → DL.MulOk (f * n ^ i) n) : ∃ sl' : Slot, sl'.pl = true ∧ sFor (rng1D (eVar 4)) (gNm 5) (sSet 2 (eOp2 mulD (aVar 2) (aVar 3))) [.sh a, .sh b, .sh (.int f), .sh (.int n), .sh (.int k), sl] = .ok .nx [.sh a, .sh b, .sh (.int (f * n ^ k.toNat)), .sh (.int n), .sh (.int k), sl'] := by
  have hk : k = 0 ∨ k = 1 ∨ k = 2 ∨ k = 3 := by omega
  have hp2 := pl_pin hp
  have m0 := hm 0 (by decide)
  have m1 := hm 1 (by decide)
  have m2 := hm 2 (by decide)
  simp only [Int.pow_zero, Int.mul_one] at m0
  have e1 : n ^ 1 = n := by simp [Int.pow_succ]
  have e2 : n ^ 2 = n * n := by simp [Int.pow_succ]
  have e3 : n ^ 3 = n * n * n := by simp [Int.pow_succ]
  rw [e1] at m1
  rw [e2] at m2
  have a2 : f * (n * n) = f * n * n := (Int.mul_assoc _ _ _).symm
  have a3 : f * (n * n * n) = f * n * n * n := by rw [← Int.mul_assoc, a2]
  rw [a2] at m2
  rcases hk with rfl | rfl | rfl | rfl
  · exact ⟨sl, hp, by simp (decide := true) [List.range_succ, DL.forM]⟩
  · exact ⟨.sh (.int 0), rfl, by simp (decide := true) [List.range_succ, DL.forM, hp2, m0, e1]⟩
  · exact ⟨.sh (.int 1), rfl, by simp (decide := true) [List.range_succ, DL.forM, hp2, m0, m1, e2, a2]⟩
  · exact ⟨.sh (.int 2), rfl, by simp (decide := true) [List.range_succ, DL.forM, hp2, m0, m1, m2, e3, a3]⟩

theorem mulpow {f n : Int} {F i : Nat} (hf : f.natAbs < 2 ^ F) (hn : n.natAbs < 2 ^ 60) (hi : i ≤ 3) : (f * n ^ i).natAbs < 2 ^ (F + 180) := by
  rw [Int.natAbs_mul, Int.natAbs_pow, Nat.pow_add]
  have h1 : n.natAbs ^ i ≤ (2 ^ 60) ^ i := Nat.pow_le_pow_left (Nat.le_of_lt hn) i
  have h2 : ((2 : Nat) ^ 60) ^ i ≤ (2 ^ 60) ^ 3 := Nat.pow_le_pow_right (by decide) hi
  have h3 : ((2 : Nat) ^ 60) ^ 3 = 2 ^ 180 := by decide
  exact Nat.mul_lt_mul_of_lt_of_le hf (by omega) (by decide)
structure Sm (p : P3) : Prop where
  a : p.1.natAbs < 2 ^ 60
  b : p.2.1.natAbs < 2 ^ 60
  c : p.2.2.natAbs < 2 ^ 60
theorem mon_lt {p q : P3} (s : Sm p) (h1 : q.1 ≤ 3) (h2 : q.2.1 ≤ 3) (h3 : q.2.2 ≤ 3) : (mon p q).natAbs < 2 ^ 541 := by
  unfold mon
  have a := mulpow (f := 1) (F := 1) (by decide) s.a (show q.1.toNat ≤ 3 by omega)
  rw [Int.one_mul] at a
  have b := mulpow a s.b (show q.2.1.toNat ≤ 3 by omega)
  have c := mulpow b s.c (show q.2.2.toNat ≤ 3 by omega)
  exact c
theorem ints_map {α : Type} (f : α → Int) : ∀ l : List α, intsD (l.map fun x => D.int (f x)) = some (l.map f)
  | [] => rfl
  | x :: l => by simp [intsD, ints_map f l]
theorem pl_cases {s : Slot} (h : s.pl = true) : s = .no ∨ ∃ d, s = .sh d := by
  cases s with
  | no => exact .inl rfl
  | sh d => exact .inr ⟨d, rfl⟩
  | ow io x => cases h
  | lk => cases h
theorem gcd3_lt {w : P3} {n : Nat} (h : w ≠ (0, 0, 0)) (h1 : w.1.natAbs < 2 ^ n) (h2 : w.2.1.natAbs < 2 ^ n) (h3 : w.2.2.natAbs < 2 ^ n) : gcd3 w < 2 ^ n := by
  have hd := gcd3_dvd w
  obtain ⟨a, b, c⟩ := w
  have : a ≠ 0 ∨ b ≠ 0 ∨ c ≠ 0 := by
    by_cases za : a = 0
    · by_cases zb : b = 0
      · refine .inr (.inr fun zc => h ?_)
        rw [za, zb, zc]
      · exact .inr (.inl zb)
    · exact .inl za
  rcases this with z | z | z
  · have := Nat.le_of_dvd (show 0 < a.natAbs by omega) (Int.ofNat_dvd_left.mp hd.1); exact Nat.lt_of_le_of_lt this h1
  · have := Nat.le_of_dvd (show 0 < b.natAbs by omega) (Int.ofNat_dvd_left.mp hd.2.1); exact Nat.lt_of_le_of_lt this h2
  · have := Nat.le_of_dvd (show 0 < c.natAbs by omega) (Int.ofNat_dvd_left.mp hd.2.2); exact Nat.lt_of_le_of_lt this h3
theorem safe_hm {d : Int} {t : Tb} (h : Hm d t) (h0 : 0 ≤ d) (h3 : d ≤ 3) : safeT (tbl t) = true := by
  have e : (tbl t).map (·.1) = (keys t).map k3 := by
    unfold tbl keys
    rw [List.map_map, List.map_map]
    rfl
  have box : ∀ p ∈ pwL d, (safeK.any fun a => decide (a = k3 p)) = true := by
    have hd : d = 0 ∨ d = 1 ∨ d = 2 ∨ d = 3 := by omega
    rcases hd with rfl | rfl | rfl | rfl <;> decide
  unfold safeT
  rw [Bool.and_eq_true, decide_eq_true_iff, List.all_eq_true]
  refine ⟨fun p hp => ?_, ?_⟩
  · obtain ⟨x, hx, rfl⟩ := List.mem_map.mp hp
    exact box x.1 (pwL_mem h0 h3 (h.hom x.1 (List.mem_map_of_mem (f := (·.1)) hx)))
  · rw [e]
    exact nodup_map_on h.nd fun a _ b _ hab => k3_inj.mp hab
theorem mulBd {m n : Nat} {t u : Tb} (h : Bd m t) (k : Bd n u) (e : m + n < 1000000) : ∀ a ∈ t, ∀ b ∈ u, DL.MulOk a.2 b.2 := fun a ha b hb =>
  mulOk_of (n := m + 1) (m := n + 1) (Nat.lt_of_le_of_lt (h a ha) (Nat.pow_lt_pow_right (by decide) (Nat.lt_succ_self _))) (Nat.lt_of_le_of_lt (k b hb) (Nat.pow_lt_pow_right (by decide) (Nat.lt_succ_self _))) (by omega)
theorem summed_sp {t u : Tb} {k : Int} (hs : safeT (tbl t) = true) (nt : (keys t).Nodup) (nu : (keys u).Nodup) (hl : t.length ≤ 400) (hm : u.length ≤ 400) (mk : ∀ b ∈ u, DL.MulOk k b.2) : runD d_summed [.sh (.dT (tbl t)), .sh (.dT (tbl u)), .sh (.int k)] = .ok (.dT (tbl (sumT k t u))) [.no, .no, .no] := by
  refine runD_of ?_
  refine sat_seq [.sh (.dT (tbl t)), .sh (.dT (tbl u)), .sh (.int k), .ow false (.T (tbl t)), .no] (by simp [hs]) ?_
  rw [sSeq_ap, sat_bind]
  refine for_dict (t := u) rfl ?_
  obtain ⟨I, hI⟩ : ∃ I : List (P3 × Int) → DS → Prop, ∀ rest s, I rest s ↔ ∃ (acc : Tb) (sl : Slot), sl.pl = true ∧ sumR k acc rest = sumR k t u ∧ (keys acc).Nodup ∧ acc.length + rest.length ≤ t.length + u.length ∧ s = [.sh (.dT (tbl t)), .sh (.dT (tbl u)), .sh (.int k), .ow false (.T (tbl acc)), sl] := ⟨_, fun _ _ => Iff.rfl⟩
  refine sat_for (fun x => pD x.1) I (ts0 := u) (by simp [keys]) ((hI _ _).mpr ⟨t, .no, rfl, rfl, nt, by omega, rfl⟩) (fun x xs s hx h => ?_) fun s h => ?_
  · obtain ⟨acc, sl, pl, hr, nd, hle, rfl⟩ := (hI _ _).mp h
    have hxu : x ∈ u := hx.subset (by simp)
    rw [List.length_cons] at hle
    have hal : acc.length < sizeLine := Nat.lt_of_le_of_lt (show acc.length ≤ 800 by omega) (by unfold sizeLine; omega)
    have m1 := mk x hxu
    have hx2 := ix_tbl nu hxu
    have ha := added_sp hal x.1 (k * x.2)
    simp [pl_pin pl, hx2, m1, ha, -ixD_sq]
    refine (hI _ _).mpr ⟨addT acc x.1 (k * x.2), _, pl_sh _, hr, nd_addT nd _ _, ?_, rfl⟩
    have := PM.len_addT acc x.1 (k * x.2)
    omega
  · obtain ⟨acc, sl, pl, hr, nd, hle, rfl⟩ := (hI _ _).mp h
    have hr2 : acc = sumR k t u := hr
    have e := thinned_sp nd (by simp at hle; omega)
    have hp : sumT k t u = thin acc := by rw [hr2]; rfl
    rw [hp]
    simp [e]
theorem sk_of (s : String) : PyData.strOk (Str.ofString s) = true := by
  unfold PyData.strOk
  rw [Str.ofString_eq_toList, List.all_toArray, List.all_map, List.all_eq_true]
  intro c hc
  have : c.toNat < 0x110000 := by
    have h := c.valid
    unfold Char.toNat
    rcases h with h | h
    · have h : c.val.toNat < 0xd800 := h
      omega
    · exact h.2
  simpa using this
theorem sk_nil : PyData.strOk Str.empty = true := by
  simp [PyData.strOk, Str.empty]
theorem sk_app {x y : Str} (h : PyData.strOk x = true) (k : PyData.strOk y = true) : PyData.strOk (x ++ y) = true := by
  unfold PyData.strOk at *
  show ((x.cps ++ y.cps).all _) = true
  rw [Array.all_append, h, k]
  rfl
theorem sk_join {sep : Str} (h : PyData.strOk sep = true) : ∀ {ts : List Str}, (∀ t ∈ ts, PyData.strOk t = true) → PyData.strOk (Str.join sep ts) = true
  | [], _ => sk_nil
  | [x], k => k x (.head _)
  | x :: y :: r, k => by
    have ih := sk_join h (ts := y :: r) fun t ht => k t (.tail _ ht)
    show PyData.strOk (x ++ sep ++ Str.join sep (y :: r)) = true
    exact sk_app (sk_app (k x (.head _)) h) ih
theorem sk_tuple {ts : List Str} (k : ∀ t ∈ ts, PyData.strOk t = true) : PyData.strOk (tupleText ts) = true := by
  unfold tupleText
  refine sk_app (sk_app (sk_of _) (sk_join (sk_of _) k)) ?_
  exact sk_of _
theorem rI_int {i : Int} (h : i.natAbs < 2 ^ 1900) : ∃ z : Str, DL.rI (.int i) = some z ∧ z.length ≤ 1921 ∧ PyData.strOk z = true := by
  have : i.natAbs.log2 < 1920 := by
    by_cases z : i.natAbs = 0
    · rw [z]; simp
    · exact Nat.lt_trans ((Nat.log2_lt z).mpr h) (by decide)
  exact ⟨toString i, by simp only [DL.rI, if_pos this], by rw [PySem.ofString_length]; exact PySem.int_text_length_le (k := 1920) (by decide) this, sk_of _⟩
theorem r1_tm {x : P3 × Int} (h1 : x.1.1.natAbs < 2 ^ 1900) (h2 : x.1.2.1.natAbs < 2 ^ 1900) (h3 : x.1.2.2.natAbs < 2 ^ 1900) (h4 : x.2.natAbs < 2 ^ 1900) : ∃ z : Str, DL.r1 (tmD x) = some z ∧ z.length ≤ 8000 ∧ PyData.strOk z = true := by
  obtain ⟨a, ea, la, ka⟩ := rI_int h1
  obtain ⟨b, eb, lb, kb⟩ := rI_int h2
  obtain ⟨c, ec, lc, kc⟩ := rI_int h3
  obtain ⟨e, ee, le, ke⟩ := rI_int h4
  have hl := tupleText_len_le [a, b, c, e]
  simp only [List.map_cons, List.map_nil, List.sum_cons, List.sum_nil, List.length_cons, List.length_nil] at hl
  have hs : (tupleText [a, b, c, e]).length ≤ 8000 := by omega
  have hs2 : (tupleText [a, b, c, e]).length ≤ sizeLine := Nat.le_trans hs (by unfold sizeLine; omega)
  refine ⟨tupleText [a, b, c, e], ?_, hs, sk_tuple (by
    intro t ht
    simp only [List.mem_cons, List.mem_nil_iff, or_false] at ht
    rcases ht with rfl | rfl | rfl | rfl <;> assumption)⟩
  unfold tmD DL.r1
  simp [DL.rIs, ea, eb, ec, ee, hs2]
theorem r1s_tm {B : Nat} (hB : B < 2 ^ 1900) : ∀ {t : Tb}, (∀ x ∈ t, x.1.1.natAbs ≤ B ∧ x.1.2.1.natAbs ≤ B ∧ x.1.2.2.natAbs ≤ B ∧ x.2.natAbs ≤ B) → ∃ zs : List Str, r1s (t.map tmD) = some zs ∧ zs.length = t.length ∧ (zs.map (·.length)).sum ≤ 8000 * t.length ∧ ∀ z ∈ zs, PyData.strOk z = true
  | [], _ => ⟨[], rfl, rfl, by simp, by simp⟩
  | x :: t, h => by
    have hx := h x (.head _)
    obtain ⟨z, e, l, kz⟩ := r1_tm (x := x) (by omega) (by omega) (by omega) (by omega)
    obtain ⟨zs, e2, l2, l3, kk⟩ := r1s_tm hB fun y hy => h y (.tail _ hy)
    refine ⟨z :: zs, by rw [List.map_cons, r1s, e, e2]; rfl, by simp [l2], ?_, by simp [kz]; exact kk⟩
    simp only [List.map_cons, List.sum_cons, List.length_cons]
    omega
/-- what repr tells of a curve -/
theorem repr_spL {d : Int} {B : Nat} {t : Tb} (o : Ok d B t) (h1 : 1 ≤ d) (h3 : d ≤ 3) (hB : B < 2 ^ 1800) : ∃ z : Str, runD d_Curve_repr [.sh (cvD d t)] = .ok (.str z) [.no] ∧ PyData.strOk z = true ∧ z.length ≤ 100007 := by
  have hl := o.len h1 h3
  have e18 : (2 : Nat) ^ 1800 + 3 < 2 ^ 1900 := by decide
  obtain ⟨zs, e, l2, l3, kk⟩ := r1s_tm (B := B + 3) (by omega) (t := t) fun x hx => by
    have hh := o.hom x.1 (List.mem_map_of_mem (f := (·.1)) hx)
    have := o.bd x hx
    omega
  have hs := tupleText_len_le zs
  have hs2 : (tupleText zs).length ≤ 100000 := by omega
  have hs3 : (tupleText zs).length ≤ sizeLine := Nat.le_trans hs2 (by unfold sizeLine; omega)
  have e2 : r2 (.tup (t.map tmD)) = some (tupleText zs) := by
    unfold r2
    dsimp only
    rw [e]
    simp [hs3]
  have c1 : (Str.empty ++ ("Curve(" : Str) ++ tupleText zs).length ≤ sizeLine := by
    rw [strLen_append, strLen_append]
    have : (Str.empty : Str).length = 0 := rfl
    have : ("Curve(" : Str).length = 6 := rfl
    unfold sizeLine
    omega
  have c2 : (Str.empty ++ ("Curve(" : Str) ++ tupleText zs ++ (")" : Str)).length ≤ sizeLine := by
    rw [strLen_append, strLen_append, strLen_append]
    have : (Str.empty : Str).length = 0 := rfl
    have : ("Curve(" : Str).length = 6 := rfl
    have : (")" : Str).length = 1 := rfl
    unfold sizeLine
    omega
  refine ⟨Str.empty ++ "Curve(" ++ tupleText zs ++ ")", ?_, sk_app (sk_app (sk_app sk_nil (sk_of _)) (sk_tuple kk)) (sk_of _), ?_⟩
  case refine_2 =>
    rw [strLen_append, strLen_append, strLen_append]
    have : (Str.empty : Str).length = 0 := rfl
    have : ("Curve(" : Str).length = 6 := rfl
    have : (")" : Str).length = 1 := rfl
    omega
  refine runD_of ?_
  have hm : m_Curve_repr [.sh (cvD d t)] = .ok (.rt (.str (Str.empty ++ "Curve(" ++ tupleText zs ++ ")"))) [.sh (cvD d t)] := by
    unfold cvD m_Curve_repr
    simp [cv_terms, e2, c1, c2]
  show Sat (m_Curve_repr [.sh (cvD d t)]) _
  rw [hm]
  exact ⟨rfl, rfl, rfl⟩
theorem repr_sp {d : Int} {B : Nat} {t : Tb} (o : Ok d B t) (h1 : 1 ≤ d) (h3 : d ≤ 3) (hB : B < 2 ^ 1800) : ∃ z : Str, runD d_Curve_repr [.sh (cvD d t)] = .ok (.str z) [.no] ∧ PyData.strOk z = true := by
  obtain ⟨z, a, b, _⟩ := repr_spL o h1 h3 hB
  exact ⟨z, a, b⟩

theorem ltable_sp {d : Int} {T : Tb} (nd : (keys T).Nodup) (hl : T.length ≤ 100) : runD d__law_table [.sh (cvD d T)] = .ok (.dT (tbl T)) [.no] := by
  refine runD_of ?_
  have hd := dictT_prD (l := T) (by omega) nd
  have el := lc_m (vs := [1]) (g := gNm 1) (e := (eTup (asCons (aOf (eSl (aVar 1) oNone (oSome (eC (.int 3))))) (asCons (aOf (eOp2 ixD (aVar 1) (aOf (eC (.int 3))))) asNil)))) tmD DL.prD (ts0 := T) (s0 := [.sh (cvD d T), .no]) rfl rfl (le_size (by omega)) (fun x hx => ⟨_, rfl, by simp [-ixD_sq, DL.prD], rfl⟩)
  unfold cvD at *
  show Sat (sRet _ _) _
  refine sat_ret (d := .dT (tbl T)) (s' := [.sh (.obj "Curve" (cvF d T)), .no]) (by simp [cv_terms, el, hd, -dictT_sq]) ⟨rfl, rfl, rfl⟩
theorem eqDB_str {z : Str} (k : PyData.strOk z = true) : eqDB (.str z) (.str z) = some true := by
  have h : PyData.canLay0 (.str z) = true := by simp [PyData.canLay0, k]
  have hs : SeqAt.shaped (.str z) = true := by simp [SeqAt.shaped, PyData.canLay0, PyData.depth, k]
  have ht : toPy (.str z) = some (.str z) := by simp [toPy]
  unfold eqDB
  simp only [ht, hs, and_self, if_true, SeqAt.eqv_refl (.str z) h]
theorem whole_all (L : List Int) : allD (.lst (L.map fun _ => D.bl true)) = some (.bl true) := by
  have h : blsD (L.map fun _ => D.bl true) = some (L.map fun _ => true) := by
    induction L with
    | nil => rfl
    | cons x L ih => simp [blsD, ih]
  have h2 : ((L.map fun _ => true).all id) = true := by
    simp
  unfold allD
  simp only [h, Option.map_some, h2]
theorem ok_mono {d : Int} {B C : Nat} {t : Tb} (o : Ok d B t) (h : B ≤ C) : Ok d C t := ⟨o.gd, o.ne, o.hom, fun x hx => Nat.le_trans (o.bd x hx) h⟩
end LW

set_option autoImplicit true
/-! The greatest key. -/
namespace LW
open PySem PySem.Spec PyProof.Rows L2 DL PM
theorem btD_pD (l : List P3) {i j : Nat} (hi : i < l.length) (hj : j < l.length) : btD (l.map pD) i j = decide (Lt l[j] l[i]) := by
  have e : ∀ {k : Nat} (h : k < l.length), ((l.map pD).map DL.encD).getD k .none = DL.encD (pD l[k]) := fun {k} h => by
    simp [List.getD, h]
  have h2 := le_pD l[i] l[j]
  unfold btD
  rw [e hi, e hj]
  have : PySem.W.dataLe false DL.encD (pD l[i]) (pD l[j]) = !PySem.W.dataLt (DL.encD (pD l[j])) (DL.encD (pD l[i])) := rfl
  rw [this] at h2
  cases hb : PySem.W.dataLt (DL.encD (pD l[j])) (DL.encD (pD l[i])) <;> rw [hb] at h2 <;> simpa using h2
theorem argBest_top (l : List P3) : ∀ k, ∀ hk : k < l.length, ∀ i, ∀ hi : i ≤ k, ∃ hb : argBest (btD (l.map pD)) k < l.length, Lt (l[i]'(by omega)) l[argBest (btD (l.map pD)) k] ∨ l[i]'(by omega) = l[argBest (btD (l.map pD)) k]
  | 0, hk, i, hi => by
    obtain rfl : i = 0 := by omega
    exact ⟨hk, .inr rfl⟩
  | k + 1, hk, i, hi => by
    have hl := argBest_le (btD (l.map pD)) k
    have ih := argBest_top l k (by omega)
    have hbl : argBest (btD (l.map pD)) k < l.length := by omega
    have e := btD_pD l (i := k + 1) (j := argBest (btD (l.map pD)) k) hk hbl
    have ex : argBest (btD (l.map pD)) (k + 1) = if btD (l.map pD) (k + 1) (argBest (btD (l.map pD)) k) = true then k + 1 else argBest (btD (l.map pD)) k := rfl
    by_cases h : Lt l[argBest (btD (l.map pD)) k] l[k + 1]
    · rw [e, if_pos (decide_eq_true h)] at ex
      have : ∀ m (hm : m < l.length), m = k + 1 → Lt (l[i]'(by omega)) l[m] ∨ l[i]'(by omega) = l[m] := fun m hm z => by
        subst z
        by_cases w : i = k + 1
        · subst w; exact .inr rfl
        · obtain ⟨_, h2⟩ := ih i (by omega)
          rcases h2 with h2 | h2
          · exact .inl (h2.trans h)
          · rw [h2]; exact .inl h
      exact ⟨by rw [ex]; exact hk, this _ (by rw [ex]; exact hk) ex⟩
    · rw [e, if_neg (by simpa using h)] at ex
      have : ∀ m (hm : m < l.length), m = argBest (btD (l.map pD)) k → Lt (l[i]'(by omega)) l[m] ∨ l[i]'(by omega) = l[m] := fun m hm z => by
        subst z
        by_cases w : i = k + 1
        · subst w
          rcases Lt.tri l[k + 1] l[argBest (btD (l.map pD)) k] with z | z | z
          · exact .inl z
          · exact .inr z
          · exact absurd z h
        · exact (ih i (by omega)).2
      exact ⟨by rw [ex]; exact hbl, this _ (by rw [ex]; exact hbl) ex⟩
theorem max_top {t : Tb} (nd : (keys t).Nodup) (hl : t.length ≤ 100) {x : P3 × Int} {r : Tb} (h : sorted t = x :: r) : maxX (.dT (tbl t)) = some (pD x.1) := by
  obtain ⟨xm, xl⟩ := top_le nd h
  have xk : x.1 ∈ keys t := List.mem_map_of_mem (f := (·.1)) xm
  have e2 : ((tbl t).map fun p => keyD p.1) = (keys t).map pD := by
    unfold tbl keys
    rw [List.map_map, List.map_map]
    rfl
  have hs : sortOk ((keys t).map pD) = true := sortOk_pD (by rw [keys_len]; omega)
  have hpos : 0 < (keys t).length := List.length_pos_of_mem xk
  have hk : (keys t).length - 1 < (keys t).length := by omega
  obtain ⟨i, hi, ei⟩ := List.mem_iff_getElem.mp xk
  obtain ⟨hb, hh⟩ := argBest_top (keys t) _ hk i (by omega)
  have e3 : (keys t)[argBest (btD ((keys t).map pD)) ((keys t).length - 1)] = x.1 := by
    rw [ei] at hh
    rcases hh with hh | hh
    · rcases xl _ (List.getElem_mem hb) with z | z
      · exact absurd (hh.trans z) (Lt.irrefl _)
      · exact z
    · exact hh.symm
  rw [maxX_dT, e2, if_pos hs]
  unfold bestD
  rw [List.length_map, List.getElem?_map, List.getElem?_eq_getElem hb, e3]
  rfl
/-! ### while, with a return inside -/
theorem while_ret {c : DS → Res Bool} {b : DS → Res Fl} {s s1 s2 : DS} {d : D} (h : c s = .ok true s1) (h2 : b s1 = .ok (.rt d) s2) : sWhile c b s = .ok (.rt d) s2 := sWhile_eq (n := 1) (by unfold whileM; rw [h]; dsimp only; rw [h2])
theorem sat_whileR {c : DS → Res Bool} {b : DS → Res Fl} {p : Fl → DS → Prop} (I : Nat → DS → Prop) {s : DS} {n : Nat} (h0 : I n s)
    (hs : ∀ n s, I n s → Sat (c s) fun t s1 => match t with
      | true => Sat (b s1) fun fl s2 => (fl = .nx ∧ ∃ m, m < n ∧ I m s2) ∨ ∃ d, fl = .rt d ∧ p (.rt d) s2
      | false => p .nx s1) : Sat (sWhile c b s) p := by
  induction n using Nat.strongRecOn generalizing s with
  | _ n ih =>
    obtain ⟨t, s1, e1, h1⟩ := (hs n s h0).of
    cases t with
    | true =>
      obtain ⟨fl, s2, e2, h2⟩ := h1.of
      rcases h2 with ⟨rfl, m, hm, h2⟩ | ⟨d, rfl, h2⟩
      · obtain ⟨fl, s3, e3, h3⟩ := (ih m hm h2).of
        rw [while_next e1 e2 e3]
        exact h3
      · rw [while_ret e1 e2]
        exact h2
    | false => rw [while_done e1]; exact h1
end LW

set_option autoImplicit true
/-! k10: one form over another, as the program does it. -/
namespace LW
open PySem PySem.Spec PyProof.Rows L2 DL PM
theorem ext_pD (p : P3) : extD false (pD p) = some (.int (min p.1 (min p.2.1 p.2.2))) := by
  simp [pD, extD, isLT2, intsD, bestI]
theorem nn_min (p : P3) : min p.1 (min p.2.1 p.2.2) < 0 ↔ ¬nn3 p := by
  unfold nn3
  omega
/-- what a slot with a table may be -/
def isT (s : Slot) (t : Tb) : Prop := s = .ow false (.T (tbl t)) ∨ s = .sh (.dT (tbl t))
structure DvH (D E : Int) (b c : Nat) (T A : Tb) : Prop where
  d0 : 0 ≤ D
  d3 : D ≤ 3
  e0 : 0 ≤ E
  e3 : E ≤ 3
  hT : Hm D T
  gT : Gd T
  bT : Bd b T
  hA : Hm E A
  gA : Gd A
  bA : Bd c A
  neT : T ≠ []
  neA : A ≠ []
  b9 : b ≤ 900
  c9 : c ≤ 900
theorem DvH.start {D E : Int} {b c : Nat} {T A : Tb} (h : DvH D E b c T A) : Dv D E b 64 T [] := ⟨h.hT, h.gT, h.bT, fun p hp => by
  have := h.hT.hom p hp
  have := h.d3
  unfold PM.code
  omega, ⟨by simp [keys], by simp [keys]⟩, ⟨by simp [keys], by simp⟩, fun x hx => by cases hx⟩
/-- the answer as data -/
def ansD : Option Tb → D
  | some F => .dT (tbl F)
  | none => .non
theorem Dv.bb {D E : Int} {b c k b' : Nat} {T A rest found : Tb} (h : DvH D E b c T A) (v : Dv D E b' k rest found) (hb : b' + (c + 1) * k ≤ b + (c + 1) * 64) : b' ≤ 60000 := by
  have := h.b9
  have := h.c9
  have : (c + 1) * 64 ≤ 901 * 64 := Nat.mul_le_mul_right _ (by omega)
  omega
theorem divided_sp {D E : Int} {b c : Nat} {T A A' : Tb} {a : P3 × Int} (h : DvH D E b c T A) (eA : sorted A = a :: A') : runD d_divided [.sh (.dT (tbl T)), .sh (.dT (tbl A))] = .ok (ansD (divF a A 64 T [])) [.no, .no] := by
  obtain ⟨R, hR⟩ : ∃ R, R = divF a A 64 T [] := ⟨_, rfl⟩
  rw [← hR]
  refine runD_of ?_
  have lT := h.hT.len h.d0 h.d3
  have lA := h.hA.len h.e0 h.e3
  have sT := safe_hm h.hT h.d0 h.d3
  have mA := max_top h.gA.nd (by omega) eA
  have am := (top_le h.gA.nd eA).1
  have ixa := ix_tbl h.gA.nd am
  have az : ¬(a.2 = 0) := h.gA.nz a am
  have hb9 := h.b9
  have hc9 := h.c9
  have dk : ∀ n : Int, DivOk n a.2 := fun n => divOk_of (n := 901) (h.gA.nz a am) (Nat.lt_of_le_of_lt (h.bA a am) (Nat.pow_lt_pow_right (by decide) (by omega))) (by decide)
  refine sat_seq [.sh (.dT (tbl T)), .sh (.dT (tbl A)), .sh (pD a.1), .no, .no, .no, .no, .no, .no] (by simp [mA, -maxX_dT]) ?_
  refine sat_seq [.sh (.dT (tbl T)), .sh (.dT (tbl A)), .sh (pD a.1), .ow false (.T (tbl [])), .no, .no, .no, .no, .no] (by simp; rfl) ?_
  refine sat_seq [.sh (.dT (tbl T)), .sh (.dT (tbl A)), .sh (pD a.1), .ow false (.T (tbl [])), .ow false (.T (tbl T)), .no, .no, .no, .no] (by simp [sT]) ?_
  rw [sSeq_ap, sat_bind]
  obtain ⟨I, hI⟩ : ∃ I : Nat → DS → Prop, ∀ k s, I k s ↔ ∃ (b' : Nat) (rest found : Tb) (s4 s5 s6 s7 : Slot), Dv D E b' k rest found ∧ b' + (c + 1) * k ≤ b + (c + 1) * 64 ∧ found.length + k ≤ 64 ∧ divF a A k rest found = R ∧ isT s4 rest ∧ s5.pl = true ∧ s6.pl = true ∧ s7.pl = true ∧ s = [.sh (.dT (tbl T)), .sh (.dT (tbl A)), .sh (pD a.1), .ow false (.T (tbl found)), s4, s5, s6, s7, .no] := ⟨_, fun _ _ => Iff.rfl⟩
  refine sat_whileR I (n := 64) ((hI _ _).mpr ⟨b, T, [], _, _, _, _, h.start, Nat.le_refl _, by simp, hR.symm, .inl rfl, rfl, rfl, rfl, rfl⟩) fun k s hh => ?_
  obtain ⟨b', rest, found, s4, s5, s6, s7, v, hb, hf, hd, i4, p5, p6, p7, rfl⟩ := (hI _ _).mp hh
  have lr := v.hr.len h.d0 h.d3
  cases er : sorted rest with
  | nil =>
    have e : rest = [] := by
      by_cases z : rest = []
      · exact z
      · exact absurd er (sorted_ne z)
    subst e
    have hf : divF a A k [] found = some found := by cases k <;> simp [divF, er]
    rw [← hd, hf]
    rcases i4 with rfl | rfl <;> simp [ansD]
  | cons x r =>
    have xm := (top_le v.gr.nd er).1
    have mx := max_top v.gr.nd (by omega) er
    have ixx := ix_tbl v.gr.nd xm
    obtain ⟨p, ep⟩ : ∃ p, p = sub3 x.1 a.1 := ⟨_, rfl⟩
    obtain ⟨q, eq⟩ : ∃ q, q = x.2.fdiv a.2 := ⟨_, rfl⟩
    have hpos : 0 < rest.length := List.length_pos_of_mem xm
    have hc : DL.tB (eOp2 gtD (aOf (eCall (on1 lenD) (asCons (aVar 4) asNil))) (aOf (eC (.int 0)))) [.sh (.dT (tbl T)), .sh (.dT (tbl A)), .sh (pD a.1), .ow false (.T (tbl found)), s4, s5, s6, s7, .no] = .ok true [.sh (.dT (tbl T)), .sh (.dT (tbl A)), .sh (pD a.1), .ow false (.T (tbl found)), s4, s5, s6, s7, .no] := by
      rcases i4 with rfl | rfl <;> simp [hpos]
    have st5 : sSet 5 (eCall (on1 maxX) (asCons (aVar 4) asNil)) [.sh (.dT (tbl T)), .sh (.dT (tbl A)), .sh (pD a.1), .ow false (.T (tbl found)), s4, s5, s6, s7, .no] = .ok .nx [.sh (.dT (tbl T)), .sh (.dT (tbl A)), .sh (pD a.1), .ow false (.T (tbl found)), s4, .sh (pD x.1), s6, s7, .no] := by rcases i4 with rfl | rfl <;> simp [mx, pl_pin p5, -maxX_dT]
    have st6 : sSet 6 (eCall (on1 tupD) (asCons (aOf (eOwn (nLc (rng1D (eCall (on1 lenD) (asCons (aVar 2) asNil))) [8] (gNm 8) tYesD (eOp2 subD (aOf (eOp2 ixD (aVar 5) (aVar 8))) (aOf (eOp2 ixD (aVar 2) (aVar 8))))))) asNil)) [.sh (.dT (tbl T)), .sh (.dT (tbl A)), .sh (pD a.1), .ow false (.T (tbl found)), s4, .sh (pD x.1), s6, s7, .no] = .ok .nx [.sh (.dT (tbl T)), .sh (.dT (tbl A)), .sh (pD a.1), .ow false (.T (tbl found)), s4, .sh (pD x.1), .sh (pD p), s7, .no] := by
      have hr : rng1D (eCall (on1 lenD) (asCons (aVar 2) asNil)) [.sh (.dT (tbl T)), .sh (.dT (tbl A)), .sh (pD a.1), .ow false (.T (tbl found)), s4, .sh (pD x.1), s6, s7, .no] = .ok [.int 0, .int 1, .int 2] [.sh (.dT (tbl T)), .sh (.dT (tbl A)), .sh (pD a.1), .ow false (.T (tbl found)), s4, .sh (pD x.1), s6, s7, .no] := by
        simp [List.range_succ, -lenD_sq]
      have hlc := lc_m (vs := [8]) (g := gNm 8) (e := eOp2 subD (aOf (eOp2 ixD (aVar 5) (aVar 8))) (aOf (eOp2 ixD (aVar 2) (aVar 8)))) DL.D.int (fun k => if k = 0 then DL.D.int (x.1.1 - a.1.1) else if k = 1 then DL.D.int (x.1.2.1 - a.1.2.1) else DL.D.int (x.1.2.2 - a.1.2.2)) (ts0 := [0, 1, 2]) (items := [.int 0, .int 1, .int 2]) (s0 := [.sh (.dT (tbl T)), .sh (.dT (tbl A)), .sh (pD a.1), .ow false (.T (tbl found)), s4, .sh (pD x.1), s6, s7, .no]) rfl rfl (by decide) (fun k hk => ⟨_, rfl, by
        simp only [List.mem_cons, List.mem_nil_iff, or_false] at hk
        rcases hk with rfl | rfl | rfl <;> simp [-ixD_sq], rfl⟩)
      have e3 : pD p = .tup [.int (x.1.1 - a.1.1), .int (x.1.2.1 - a.1.2.1), .int (x.1.2.2 - a.1.2.2)] := by rw [ep]; rfl
      simp [hr, hlc, pl_pin p6, -rng1D_ap, e3]
    rw [hc]
    show Sat (sSeq _ _ _) _
    rw [seq_eq st5, seq_eq st6]
    have ix4 : ∀ q s7 (y : DL.D), ixD (.dT (tbl rest)) q = some y → eOp2 ixD (aVar 4) (aVar 5) [.sh (.dT (tbl T)), .sh (.dT (tbl A)), .sh (pD a.1), .ow false (.T (tbl found)), s4, .sh q, .sh (pD p), s7, .no] = .ok y [.sh (.dT (tbl T)), .sh (.dT (tbl A)), .sh (pD a.1), .ow false (.T (tbl found)), s4, .sh q, .sh (pD p), s7, .no] := fun q s7 y e => by
      rcases i4 with rfl | rfl <;> simp [e, -ixD_sq]
    have i4x := ix4 (pD x.1) s7 _ ixx
    have em := ext_pD p
    have mk0 : DL.MulOk 1 1 := mulOk_of (n := 1) (m := 1) (by decide) (by decide) (by decide)
    by_cases ok : nn3 p ∧ x.2.fmod a.2 = 0
    · obtain ⟨n0, nb, hm, k', ek, v2⟩ := v.step h.d3 h.hA h.gA h.bA eA er (ep ▸ ok.1) ok.2
      have hd2 : divF a A k' (stepT A p (x.2.fdiv a.2) rest) (put found p (x.2.fdiv a.2)) = R := by
        rw [← hd, ek, divF, er]
        dsimp only
        rw [← ep, if_pos ok]
      rw [← ep] at v2
      rw [← eq] at n0 nb hm v2 hd2
      have hneg : ¬(min p.1 (min p.2.1 p.2.2) < 0) := fun z => (nn_min p).mp z ok.1
      refine sat_seq [.sh (.dT (tbl T)), .sh (.dT (tbl A)), .sh (pD a.1), .ow false (.T (tbl found)), s4, .sh (pD x.1), .sh (pD p), s7, .no] (by rcases i4 with rfl | rfl <;> simp [em, hneg, ixx, ixa, az, dk, ok.2, -ixD_sq, -extD_sq]) ?_
      refine sat_seq [.sh (.dT (tbl T)), .sh (.dT (tbl A)), .sh (pD a.1), .ow false (.T (tbl found)), s4, .sh (pD x.1), .sh (pD p), .sh (.int q), .no] (by rcases i4 with rfl | rfl <;> simp [ixx, ixa, az, dk, pl_pin p7, eq, -ixD_sq]) ?_
      have hfl : found.length < sizeLine := by
        have : found.length ≤ 64 := by omega
        unfold sizeLine; omega
      refine sat_seq [.sh (.dT (tbl T)), .sh (.dT (tbl A)), .sh (pD a.1), .ow false (.T (tbl (put found p q))), s4, .sh (pD x.1), .sh (pD p), .sh (.int q), .no] (by simp [hfl]) ?_
      have hb6 := Dv.bb h v hb
      have q1 : ∀ y ∈ A, DL.MulOk q y.2 := fun y hy => mulOk_of (n := b' + 1) (m := c + 1) (Nat.lt_of_le_of_lt nb (Nat.pow_lt_pow_right (by decide) (Nat.lt_succ_self _))) (Nat.lt_of_le_of_lt (h.bA y hy) (Nat.pow_lt_pow_right (by decide) (Nat.lt_succ_self _))) (by omega)
      have hpr := product_g (t := [(p, q)]) (u := A) (by simp [keys]) h.gA.nd (by simp) lA (fun z hz y hy => by
        rw [List.mem_singleton.mp hz]
        exact q1 y hy)
      rw [prod_one h.gA p n0] at hpr
      have lm : (mulT p q A).length ≤ 10 := by unfold mulT; simpa using lA
      have bm : ∀ z ∈ mulT p q A, z.2.natAbs ≤ 2 ^ (b' + c) := by
        intro z hz
        obtain ⟨y, hy, rfl⟩ := List.mem_map.mp hz
        rw [Int.natAbs_mul, Nat.pow_add]
        exact Nat.mul_le_mul nb (h.bA y hy)
      have sr := safe_hm v.hr h.d0 h.d3
      have hsu := summed_sp (t := rest) (u := mulT p q A) (k := -1) sr v.gr.nd (nd_mulT h.gA.nd p q) (by omega) (by omega) fun z hz => mulOk_of (n := 1) (m := b' + c + 1) (by decide) (Nat.lt_of_le_of_lt (bm z hz) (Nat.pow_lt_pow_right (by decide) (Nat.lt_succ_self _))) (by omega)
      have et : tbl [(p, q)] = mergeD [] [(k3 p, DL.D.int q)] := rfl
      rw [et] at hpr
      rcases i4 with rfl | rfl
      · simp [pairsM, keyed, hpr, hsu]
        exact ⟨k', by omega, (hI _ _).mpr ⟨_, _, _, _, _, _, _, v2, by rw [ek, Nat.mul_succ] at hb; omega, by
          have := len_put found p q
          omega, hd2, .inr rfl, rfl, rfl, rfl, rfl⟩⟩
      · simp [pairsM, keyed, hpr, hsu]
        exact ⟨k', by omega, (hI _ _).mpr ⟨_, _, _, _, _, _, _, v2, by rw [ek, Nat.mul_succ] at hb; omega, by
          have := len_put found p q
          omega, hd2, .inr rfl, rfl, rfl, rfl, rfl⟩⟩
    · have hn : R = none := by
        rw [← hd]
        cases k with
        | zero => simp [divF, er]
        | succ k =>
          rw [divF, er]
          dsimp only
          rw [← ep, if_neg ok]
      rw [hn]
      by_cases hneg : min p.1 (min p.2.1 p.2.2) < 0
      · simp [em, hneg, ansD, -extD_sq]
      · have hmod : ¬(x.2.fmod a.2 = 0) := fun z => ok ⟨by
          by_cases w : nn3 p
          · exact w
          · exact absurd ((nn_min p).mpr w) hneg, z⟩
        rcases i4 with rfl | rfl <;> simp [em, hneg, ixx, ixa, az, dk, hmod, ansD, -ixD_sq, -extD_sq]
end LW

set_option autoImplicit true
/-! k10: one form over another, as the law does it. -/
namespace LW
open PySem PySem.Spec PyProof.Rows L2 DL PM
theorem mem_put_self (t : Tb) (p : P3) (n : Int) : (p, n) ∈ put t p n := by
  unfold put
  split
  · rename_i h
    obtain ⟨x, hx, e⟩ := List.mem_map.mp (any_keys.mp h)
    exact List.mem_map.mpr ⟨x, hx, by rw [if_pos e, e]⟩
  · simp
theorem top_deg {D : Int} {T r : Tb} {x : P3 × Int} (h : Hm D T) (e : sorted T = x :: r) : x.1.1 + x.1.2.1 + x.1.2.2 = D := (h.hom x.1 (List.mem_map_of_mem (f := (·.1)) (top_le h.nd e).1)).2.2.2
theorem due_sp {D E : Int} {b c : Nat} {T A A' : Tb} {a : P3 × Int} (h : DvH D E b c T A) (eA : sorted A = a :: A') : runD d__law_due [.sh (.dT (tbl T)), .sh (.dT (tbl A))] = .ok (ansD (if D ≤ E then none else divF a A 64 T [])) [.no, .no] := by
  obtain ⟨R, hR⟩ : ∃ R, R = divF a A 64 T [] := ⟨_, rfl⟩
  rw [← hR]
  refine runD_of ?_
  have lT := h.hT.len h.d0 h.d3
  have lA := h.hA.len h.e0 h.e3
  have sT := safe_hm h.hT h.d0 h.d3
  have mA := max_top h.gA.nd (by omega) eA
  have am := (top_le h.gA.nd eA).1
  have ixa := ix_tbl h.gA.nd am
  have az : ¬(a.2 = 0) := h.gA.nz a am
  have hb9 := h.b9
  have hc9 := h.c9
  have dk : ∀ n : Int, DivOk n a.2 := fun n => divOk_of (n := 901) (h.gA.nz a am) (Nat.lt_of_le_of_lt (h.bA a am) (Nat.pow_lt_pow_right (by decide) (by omega))) (by decide)
  obtain ⟨t, T', eT⟩ : ∃ t T', sorted T = t :: T' := by
    cases e : sorted T with
    | nil => exact absurd e (sorted_ne h.neT)
    | cons t r => exact ⟨t, r, rfl⟩
  have mT := max_top h.gT.nd (by omega) eT
  have dT := top_deg h.hT eT
  have dA := top_deg h.hA eA
  have sA := sum_pD a.1
  have sTT := sum_pD t.1
  by_cases hde : D ≤ E
  · have hde2 : t.1.1 + t.1.2.1 + t.1.2.2 ≤ a.1.1 + a.1.2.1 + a.1.2.2 := by omega
    rw [if_pos hde]
    simp [m__law_due, mA, mT, sA, sTT, hde2, ansD, -maxX_dT, -sumD_sq]
  rw [if_neg hde]
  have hde2 : ¬(t.1.1 + t.1.2.1 + t.1.2.2 ≤ a.1.1 + a.1.2.1 + a.1.2.2) := by omega
  refine sat_seq [.sh (.dT (tbl T)), .sh (.dT (tbl A)), .no, .no, .no, .no, .no, .no, .no] (by simp [mA, mT, sA, sTT, hde2, -maxX_dT, -sumD_sq]) ?_
  refine sat_seq [.sh (.dT (tbl T)), .sh (.dT (tbl A)), .sh (pD a.1), .no, .no, .no, .no, .no, .no] (by simp [mA, -maxX_dT]) ?_
  refine sat_seq [.sh (.dT (tbl T)), .sh (.dT (tbl A)), .sh (pD a.1), .ow false (.T (tbl T)), .no, .no, .no, .no, .no] (by simp [sT]) ?_
  refine sat_seq [.sh (.dT (tbl T)), .sh (.dT (tbl A)), .sh (pD a.1), .ow false (.T (tbl T)), .ow false (.T (tbl [])), .no, .no, .no, .no] (by simp; rfl) ?_
  rw [sSeq_ap, sat_bind]
  obtain ⟨I, hI⟩ : ∃ I : Nat → DS → Prop, ∀ k s, I k s ↔ ∃ (b' : Nat) (rest found : Tb) (s5 s6 s7 s8 : Slot), Dv D E b' k rest found ∧ b' + (c + 1) * k ≤ b + (c + 1) * 64 ∧ found.length + k ≤ 64 ∧ divF a A k rest found = R ∧ s5.pl = true ∧ s6.pl = true ∧ s7.pl = true ∧ s8.pl = true ∧ s = [.sh (.dT (tbl T)), .sh (.dT (tbl A)), .sh (pD a.1), .ow false (.T (tbl rest)), .ow false (.T (tbl found)), s5, s6, s7, s8] := ⟨_, fun _ _ => Iff.rfl⟩
  refine sat_whileR I (n := 64) ((hI _ _).mpr ⟨b, T, [], _, _, _, _, h.start, Nat.le_refl _, by simp, hR.symm, rfl, rfl, rfl, rfl, rfl⟩) fun k s hh => ?_
  obtain ⟨b', rest, found, s5, s6, s7, s8, v, hb, hf, hd, p5, p6, p7, p8, rfl⟩ := (hI _ _).mp hh
  have lr := v.hr.len h.d0 h.d3
  cases er : sorted rest with
  | nil =>
    have e : rest = [] := by
      by_cases z : rest = []
      · exact z
      · exact absurd er (sorted_ne z)
    subst e
    have hf : divF a A k [] found = some found := by cases k <;> simp [divF, er]
    rw [← hd, hf]
    simp [ansD]
  | cons x r =>
    have xm := (top_le v.gr.nd er).1
    have mx := max_top v.gr.nd (by omega) er
    have ixx := ix_tbl v.gr.nd xm
    obtain ⟨p, ep⟩ : ∃ p, p = sub3 x.1 a.1 := ⟨_, rfl⟩
    obtain ⟨q, eq⟩ : ∃ q, q = x.2.fdiv a.2 := ⟨_, rfl⟩
    have hpos : 0 < rest.length := List.length_pos_of_mem xm
    have hc : DL.tB (eOp1 neE (aVar 3)) [.sh (.dT (tbl T)), .sh (.dT (tbl A)), .sh (pD a.1), .ow false (.T (tbl rest)), .ow false (.T (tbl found)), s5, s6, s7, s8] = .ok true [.sh (.dT (tbl T)), .sh (.dT (tbl A)), .sh (pD a.1), .ow false (.T (tbl rest)), .ow false (.T (tbl found)), s5, s6, s7, s8] := by
      cases rest with
      | nil => cases xm
      | cons z rest => simp [tbl]
    rw [hc]
    show Sat (sSeq _ _ _) _
    refine sat_seq [.sh (.dT (tbl T)), .sh (.dT (tbl A)), .sh (pD a.1), .ow false (.T (tbl rest)), .ow false (.T (tbl found)), .sh (pD x.1), s6, s7, s8] (by simp [mx, pl_pin p5, -maxX_dT]) ?_
    refine sat_seq [.sh (.dT (tbl T)), .sh (.dT (tbl A)), .sh (pD a.1), .ow false (.T (tbl rest)), .ow false (.T (tbl found)), .sh (pD x.1), .sh (pD p), s7, s8] (by rw [ep]; simp [pl_pin p6, -ixD_sq]; rfl) ?_
    have em := ext_pD p
    by_cases ok : nn3 p ∧ x.2.fmod a.2 = 0
    · obtain ⟨n0, nb, hm, k', ek, v2⟩ := v.step h.d3 h.hA h.gA h.bA eA er (ep ▸ ok.1) ok.2
      have hd2 : divF a A k' (stepT A p (x.2.fdiv a.2) rest) (put found p (x.2.fdiv a.2)) = R := by
        rw [← hd, ek, divF, er]
        dsimp only
        rw [← ep, if_pos ok]
      rw [← ep] at v2
      rw [← eq] at n0 nb hm v2 hd2
      have hneg : ¬(min p.1 (min p.2.1 p.2.2) < 0) := fun z => (nn_min p).mp z ok.1
      refine sat_seq [.sh (.dT (tbl T)), .sh (.dT (tbl A)), .sh (pD a.1), .ow false (.T (tbl rest)), .ow false (.T (tbl found)), .sh (pD x.1), .sh (pD p), s7, s8] (by simp [em, hneg, ixx, ixa, az, dk, ok.2, -ixD_sq, -extD_sq]) ?_
      have hfl : found.length < sizeLine := by
        have : found.length ≤ 64 := by omega
        unfold sizeLine; omega
      refine sat_seq [.sh (.dT (tbl T)), .sh (.dT (tbl A)), .sh (pD a.1), .ow false (.T (tbl rest)), .ow false (.T (tbl (put found p q))), .sh (pD x.1), .sh (pD p), s7, s8] (by simp [hfl, ixx, ixa, az, dk, eq, -ixD_sq]) ?_
      have hb6 := Dv.bb h v hb
      have q1 : ∀ y ∈ A, DL.MulOk q y.2 := fun y hy => mulOk_of (n := b' + 1) (m := c + 1) (Nat.lt_of_le_of_lt nb (Nat.pow_lt_pow_right (by decide) (Nat.lt_succ_self _))) (Nat.lt_of_le_of_lt (h.bA y hy) (Nat.pow_lt_pow_right (by decide) (Nat.lt_succ_self _))) (by omega)
      have ixf : ixD (.dT (tbl (put found p q))) (pD p) = some (.int q) := ix_tbl (x := (p, q)) (nd_put v.gf.nd p q) (mem_put_self _ _ _)
      rw [sSeq_ap, sat_bind]
      refine for_dict (t := A) rfl ?_
      obtain ⟨J, hJ⟩ : ∃ J : List (P3 × Int) → DS → Prop, ∀ ys s, J ys s ↔ ∃ (acc : Tb) (s7 s8 : Slot), s7.pl = true ∧ s8.pl = true ∧ sumR (-1) acc (mulT p q ys) = sumR (-1) rest (mulT p q A) ∧ (keys acc).Nodup ∧ acc.length + ys.length ≤ 20 ∧ s = [.sh (.dT (tbl T)), .sh (.dT (tbl A)), .sh (pD a.1), .ow false (.T (tbl acc)), .ow false (.T (tbl (put found p q))), .sh (pD x.1), .sh (pD p), s7, s8] := ⟨_, fun _ _ => Iff.rfl⟩
      refine sat_for (fun x => pD x.1) J (ts0 := A) (by simp [keys]) ((hJ _ _).mpr ⟨rest, s7, s8, p7, p8, rfl, v.gr.nd, by omega, rfl⟩) (fun y ys s hy hh => ?_) fun s hh => ?_
      · obtain ⟨acc, s7, s8, p7, p8, hr, nd, hle, rfl⟩ := (hJ _ _).mp hh
        have hyA : y ∈ A := hy.subset (by simp)
        rw [List.length_cons] at hle
        have hal : acc.length < sizeLine := by unfold sizeLine; omega
        have iy := ix_tbl h.gA.nd hyA
        refine ⟨[.sh (.dT (tbl T)), .sh (.dT (tbl A)), .sh (pD a.1), .ow false (.T (tbl acc)), .ow false (.T (tbl (put found p q))), .sh (pD x.1), .sh (pD p), .sh (pD y.1), s8], by simp [pl_pin p7], ?_⟩
        refine sat_seq [.sh (.dT (tbl T)), .sh (.dT (tbl A)), .sh (pD a.1), .ow false (.T (tbl acc)), .ow false (.T (tbl (put found p q))), .sh (pD x.1), .sh (pD p), .sh (pD y.1), .sh (pD (add3 y.1 p))] (by simp [pl_pin p8, -ixD_sq]; rfl) ?_
        have hg := getM_tbl acc (add3 y.1 p)
        have e1 : put acc (add3 y.1 p) (cf acc (add3 y.1 p) - q * y.2) = addT acc (add3 p y.1) (-1 * (q * y.2)) := by
          unfold addT
          rw [add3_comm y.1 p]
          congr 1
          omega
        simp [iy, ixf, q1 y hyA, hal, hg, -ixD_sq, -getM_sq]
        refine (hJ _ _).mpr ⟨addT acc (add3 p y.1) (-1 * (q * y.2)), _, _, pl_sh _, pl_sh _, hr, nd_addT nd _ _, ?_, by rw [e1]⟩
        have := PM.len_addT acc (add3 p y.1) (-1 * (q * y.2))
        omega
      · obtain ⟨acc, s7, s8, p7, p8, hr, nd, hle, rfl⟩ := (hJ _ _).mp hh
        have hr2 : acc = sumR (-1) rest (mulT p q A) := hr
        have est : stepT A p q rest = thin acc := by rw [hr2]; rfl
        have e := filt_sp nd (by simp at hle; omega) (vs := 0) (i := 3) (j := 7) (s := [.sh (.dT (tbl T)), .sh (.dT (tbl A)), .sh (pD a.1), .sh (.dT (tbl acc)), .ow false (.T (tbl (put found p q))), .sh (pD x.1), .sh (pD p), s7, s8]) rfl (by decide) ⟨_, rfl, p7⟩
        have hdt := dictT_prD (l := thin acc) (by have := thin_len acc; simp at hle; omega) (nd_thin nd)
        simp [e, hdt, -walkS_ap, -dictT_sq]
        refine ⟨k', by omega, (hI _ _).mpr ⟨_, _, _, _, _, _, _, est ▸ v2, by rw [ek, Nat.mul_succ] at hb; omega, ?_, est ▸ hd2, rfl, rfl, p7, p8, rfl⟩⟩
        have := len_put found p q
        omega
    · have hn : R = none := by
        rw [← hd]
        cases k with
        | zero => simp [divF, er]
        | succ k =>
          rw [divF, er]
          dsimp only
          rw [← ep, if_neg ok]
      rw [hn]
      by_cases hneg : min p.1 (min p.2.1 p.2.2) < 0
      · simp [em, hneg, ansD, -extD_sq]
      · have hmod : ¬(x.2.fmod a.2 = 0) := fun z => ok ⟨by
          by_cases w : nn3 p
          · exact w
          · exact absurd ((nn_min p).mpr w) hneg, z⟩
        simp [em, hneg, ixx, ixa, az, dk, hmod, ansD, -ixD_sq, -extD_sq]
end LW

set_option autoImplicit true
/-! k10: over, and whether it is good. -/
namespace LW
open PySem PySem.Spec PyProof.Rows L2 DL PM
/-- a curve of the law: its numbers are small -/
structure Cv (d : Int) (t : Tb) : Prop where
  ok : Ok d (2 ^ 16) t
  d1 : 1 ≤ d
  d3 : d ≤ 3
theorem Cv.dvh {d e : Int} {T A : Tb} (h : Cv d T) (k : Cv e A) : DvH d e 16 16 T A := ⟨by have := h.d1; omega, h.d3, by have := k.d1; omega, k.d3, h.ok.hm, h.ok.gd, h.ok.bd, k.ok.hm, k.ok.gd, k.ok.bd, h.ok.ne, k.ok.ne, by decide, by decide⟩
theorem top_ex {t : Tb} (h : t ≠ []) : ∃ x r, sorted t = x :: r := by
  cases e : sorted t with
  | nil => exact absurd e (sorted_ne h)
  | cons x r => exact ⟨x, r, rfl⟩
/-- the answer: the form over the other one -/
def ovT (d e : Int) (T A : Tb) : Option Tb := if d ≤ e then none else match sorted A with
  | a :: _ => divF a A 64 T []
  | [] => none
theorem ovT_ok {d e : Int} {T A F : Tb} (h : Cv d T) (k : Cv e A) (hf : ovT d e T A = some F) : Ok (d - e) (2 ^ 1200) F ∧ 1 ≤ d - e ∧ d - e ≤ 3 := by
  unfold ovT at hf
  split at hf
  · cases hf
  · rename_i hde
    have := h.d3
    have := k.d1
    obtain ⟨a, A', eA⟩ := top_ex k.ok.ne
    rw [eA] at hf
    have D := h.dvh k
    obtain ⟨o1, o2, o3, o4⟩ := divF_ok h.d3 D.hA D.gA D.bA eA D.start (.inl h.ok.ne) hf
    exact ⟨⟨o2, o3, o1.hom, o4.mono (by omega)⟩, by omega, by omega⟩
def ovD (d : Int) : Option Tb → D
  | some F => cvD d (norm F)
  | none => .non
theorem over_sp {d e : Int} {T A : Tb} (h : Cv d T) (k : Cv e A) : runD d_Curve_over [.sh (cvD d T), .sh (cvD e A)] = .ok (ovD (d - e) (ovT d e T A)) [.no, .no] := by
  refine runD_of ?_
  have d1 := h.d1
  have d3 := h.d3
  have lT := h.ok.len h.d1 h.d3
  have lA := k.ok.len k.d1 k.d3
  obtain ⟨a, A', eA⟩ := top_ex k.ok.ne
  have t1 := table_sp (d := d) h.ok.gd.nd (by omega : T.length ≤ 1000)
  have t2 := table_sp (d := e) k.ok.gd.nd (by omega : A.length ≤ 1000)
  have dv := divided_sp (h.dvh k) eA
  by_cases hde : d ≤ e
  · have ho : ovT d e T A = none := if_pos hde
    refine sat_seq [.sh (cvD d T), .sh (cvD e A), .no] (by simp [look_curve_sp]) ?_
    rw [ho]
    unfold cvD
    simp [cv_degree, hde, ovD]
  · refine sat_seq [.sh (cvD d T), .sh (cvD e A), .no] (by simp [look_curve_sp]) ?_
    refine sat_seq [.sh (cvD d T), .sh (cvD e A), .no] (by
      unfold cvD
      simp [cv_degree, hde]) ?_
    have ho : ovT d e T A = divF a A 64 T [] := by
      unfold ovT
      rw [if_neg hde, eA]
    rw [← ho] at dv
    cases hF : ovT d e T A with
    | none =>
      rw [hF] at dv
      unfold cvD at *
      simp [cv_table, t1, t2, dv, ansD, ovD, isD, isB, isNonD]
    | some F =>
      rw [hF] at dv
      obtain ⟨o, o1, o3⟩ := ovT_ok h k hF
      have cc := curve_of_sp o o1 o3 (by decide)
      unfold cvD at *
      simp [cv_table, t1, t2, dv, ansD, ovD, cc, isD, isB, isNonD]
      rfl
theorem two_texts {d e : Int} {T A : Tb} (h : Cv d T) (k : Cv e A) : ∃ z : Str, PyData.strOk z = true ∧ ∀ (s : DS) (f : DS → Res Ar), f s = .ok (.v (.lst [cvD d T, cvD e A])) s → eRepL "Curve" d_Curve_repr f s = .ok (.str z) s := by
  obtain ⟨z1, r1, k1, l1⟩ := repr_spL h.ok h.d1 h.d3 (by decide)
  obtain ⟨z2, r2, k2, l2⟩ := repr_spL k.ok k.d1 k.d3 (by decide)
  obtain ⟨o1, r1⟩ := runD_ok r1
  obtain ⟨o2, r2⟩ := runD_ok r2
  have hn : ∀ (d : Int) (t : Tb), noL (cvD d t) = true := by
    intro d t
    have : ∀ t : Tb, noLs (t.map tmD) = true := by
      intro t
      induction t with
      | nil => rfl
      | cons x t ih =>
        rw [List.map_cons, noLs, ih]
        rfl
    unfold cvD cvF
    simp [noL, noLf, this]
  have ht : textsOf "Curve" d_Curve_repr [cvD d T, cvD e A] = some [z1, z2] := by
    have a1 : textOf "Curve" d_Curve_repr (cvD d T) = some z1 := by
      have := hn d T
      unfold cvD at *
      simp [textOf, this, r1]
    have a2 : textOf "Curve" d_Curve_repr (cvD e A) = some z2 := by
      have := hn e A
      unfold cvD at *
      simp [textOf, this, r2]
    simp [textsOf, a1, a2]
  have hl : (listText [z1, z2]).length ≤ sizeLine := by
    have := listText_len_le [z1, z2]
    simp at this
    unfold sizeLine
    omega
  refine ⟨listText [z1, z2], ?_, fun s f hf => ?_⟩
  · rw [listText_eq_join]
    exact sk_app (sk_app (sk_of _) (sk_join (sk_of _) (by
      intro t ht
      simp at ht
      rcases ht with rfl | rfl <;> assumption))) (sk_of _)
  · simp [hf, ht, hl]
noncomputable abbrev bGood : DS → Res Fl := (sSeq (sIf (tAndD (DL.tB (eOp2 isD (aVar 3) (aOf (eC .non)))) (DL.tB (eOp2 isNotD (aVar 4) (aOf (eC .non))))) (sRet (eC (.bl false))) sNil) (sIf (tAndD (DL.tB (eOp2 isNotD (aVar 3) (aOf (eC .non)))) (tOrD (tNotD (DL.tB (eIsi (isiC osL "Curve") (aVar 4)))) (DL.tB (eOp2 neD (aOf (eOp1 (fldD "Curve" "terms") (aVar 4))) (aOf (eFn d__law_kept (asCons (aVar 3) asNil))))))) (sRet (eC (.bl false))) sNil))
theorem good_sp {d e : Int} {T A : Tb} (h : Cv d T) (k : Cv e A) : runD d__law_good [.sh (cvD d T), .sh (cvD e A)] = .ok (.bl true) [.no, .no] := by
  refine runD_of ?_
  have lT := h.ok.len h.d1 h.d3
  have lA := k.ok.len k.d1 k.d3
  obtain ⟨a, A', eA⟩ := top_ex k.ok.ne
  have t1 := ltable_sp (d := d) h.ok.gd.nd (by omega : T.length ≤ 100)
  have t2 := ltable_sp (d := e) k.ok.gd.nd (by omega : A.length ≤ 100)
  have du := due_sp (h.dvh k) eA
  have ho : (if d ≤ e then none else divF a A 64 T []) = ovT d e T A := by
    unfold ovT
    rw [eA]
  rw [ho] at du
  have ov := over_sp h k
  obtain ⟨z, sz, rz⟩ := two_texts h k
  have ez := eqDB_str sz
  have hlist : ∀ a2 a3 a4 : Slot, (aOf (eOwn (nLst (asCons (aOf (eVar 0)) (asCons (aOf (eVar 1)) asNil))))) [.sh (cvD d T), .sh (cvD e A), a2, a3, a4] = .ok (.v (.lst [cvD d T, cvD e A])) [.sh (cvD d T), .sh (cvD e A), a2, a3, a4] := by
    intro a2 a3 a4
    simp
  have rr : ∀ a2 a3 a4 : Slot, eRepL "Curve" d_Curve_repr (aOf (eOwn (nLst (asCons (aOf (eVar 0)) (asCons (aOf (eVar 1)) asNil))))) [.sh (cvD d T), .sh (cvD e A), a2, a3, a4] = .ok (.str z) [.sh (cvD d T), .sh (cvD e A), a2, a3, a4] := fun a2 a3 a4 => rz _ _ (hlist a2 a3 a4)
  refine sat_seq [.sh (cvD d T), .sh (cvD e A), .sh (.str z), .no, .no] (set_of (rr _ _ _) (by simp)) ?_
  refine sat_seq [.sh (cvD d T), .sh (cvD e A), .sh (.str z), .sh (ansD (ovT d e T A)), .no] (by simp [t1, t2, du]) ?_
  obtain ⟨o, eo⟩ : ∃ o, o = ovT d e T A := ⟨_, rfl⟩
  rw [← eo] at ov du ⊢
  have hv : valsD (eOwn (nLst (asCons (aOf (eMeth "Curve" "over" d_Curve_over (aVar 0) (asCons (aVar 1) asNil))) (asCons (aOf (eMethK "Curve" "over" d_Curve_over [0, 1] (aVar 0) (asCons (aVar 1) asNil))) asNil)))) [.sh (cvD d T), .sh (cvD e A), .sh (.str z), .sh (ansD o), .no] = .ok [ovD (d - e) o, ovD (d - e) o] [.sh (cvD d T), .sh (cvD e A), .sh (.str z), .sh (ansD o), .no] := by
    have hov : (cvF d T).lookup ("over" : Str) = none := rfl
    unfold cvD at *
    simp [ov, hov]
  obtain ⟨S, hS⟩ : ∃ S : Slot → DS, S = fun x => [.sh (cvD d T), .sh (cvD e A), .sh (.str z), .sh (ansD o), x] := ⟨_, rfl⟩
  have bl : ∀ c : Slot, c.pin = false → ∃ s1, gNm 4 (ovD (d - e) o) (S c) = some s1 ∧ bGood s1 = .ok .nx (S (.sh (ovD (d - e) o))) := fun c hc => by
    rw [hS]
    refine ⟨[.sh (cvD d T), .sh (cvD e A), .sh (.str z), .sh (ansD o), .sh (ovD (d - e) o)], by simp [hc], ?_⟩
    cases o with
    | none => simp [ansD, ovD, isD, isNotD, isB, isNonD]
    | some F =>
      obtain ⟨oF, o1, o3⟩ := ovT_ok h k eo.symm
      have kp := kept_sp oF o1 o3 (by decide)
      have hte : (cvF (d - e) (norm F)).lookup ("terms" : Str) = some (.tup ((norm F).map tmD)) := rfl
      unfold ovD cvD
      simp [ansD, isD, isNotD, isB, isNonD, kp, hte, os_curve]
  have hn : (.no : Slot).pin = false := rfl
  obtain ⟨u1, g1, f1⟩ := bl .no hn
  obtain ⟨u2, g2, f2⟩ := bl (.sh (ovD (d - e) o)) (pin_sh _)
  have hfor : sFor (valsD (eOwn (nLst (asCons (aOf (eMeth "Curve" "over" d_Curve_over (aVar 0) (asCons (aVar 1) asNil))) (asCons (aOf (eMethK "Curve" "over" d_Curve_over [0, 1] (aVar 0) (asCons (aVar 1) asNil))) asNil))))) (gNm 4) bGood (S .no) = .ok .nx (S (.sh (ovD (d - e) o))) := by
    rw [sFor_ap]
    rw [hS] at g1 f1 g2 f2 ⊢
    rw [hv]
    simp only [Res.bind]
    rw [forM_cons g1 f1, forM_cons g2 f2]
    rfl
  rw [hS] at hfor
  refine sat_seq _ hfor ?_
  have r2 := rr (.sh (.str z)) (.sh (ansD o)) (.sh (ovD (d - e) o))
  have e2 : (eOp2 eqD (aOf (eRepL "Curve" d_Curve_repr (aOf (eOwn (nLst (asCons (aOf (eVar 0)) (asCons (aOf (eVar 1)) asNil))))))) (aVar 2)) [.sh (cvD d T), .sh (cvD e A), .sh (.str z), .sh (ansD o), .sh (ovD (d - e) o)] = .ok (.bl true) [.sh (cvD d T), .sh (cvD e A), .sh (.str z), .sh (ansD o), .sh (ovD (d - e) o)] := by
    rw [eOp2_ap, aOf_ap, r2]
    simp [ez]
  exact sat_ret e2 ⟨rfl, rfl, rfl⟩
end LW

set_option autoImplicit true
/-! k10: the law. -/
namespace LW
open PySem PySem.Spec PyProof.Rows L2 DL PM
theorem over_prod {d e : Int} {L R : Tb} (oL : Ok d 17 L) (oR : Ok e 17 R) (d1 : 1 ≤ d) (e1 : 1 ≤ e) (h3 : d + e ≤ 3) : Cv (d + e) (norm (prod L R)) ∧ ovD (d + e - d) (ovT (d + e) d (norm (prod L R)) (norm L)) = cvD e (norm R) := by
  have lL := oL.len d1 (by omega)
  have lR := oR.len e1 (by omega)
  have q := ok_prod oL oR
  have b : L.length * (R.length * (17 * 17)) ≤ 2 ^ 16 := Nat.le_trans (Nat.mul_le_mul lL (Nat.mul_le_mul lR (Nat.le_refl _))) (by decide)
  refine ⟨⟨ok_norm (ok_mono q b), by omega, h3⟩, ?_⟩
  obtain ⟨a, A', eA⟩ := top_ex (norm_ne oL.ne)
  have nn : Nn R := fun p hp => ⟨(oR.hom p hp).1, (oR.hom p hp).2.1, (oR.hom p hp).2.2.1⟩
  obtain ⟨F, hF, eF⟩ := over_norm oL.gd oR.gd oL.ne oR.ne nn (by omega) eA
  have ho : ovT (d + e) d (norm (prod L R)) (norm L) = some F := by
    unfold ovT
    rw [if_neg (by omega), eA]
    exact hF
  rw [ho]
  show cvD (d + e - d) (norm F) = _
  rw [eF]
  have : d + e - d = e := by omega
  rw [this]
theorem cv_norm {d : Int} {B : Nat} {t : Tb} (o : Ok d B t) (hB : B ≤ 2 ^ 16) (d1 : 1 ≤ d) (d3 : d ≤ 3) : Cv d (norm t) := ⟨ok_norm (ok_mono o hB), d1, d3⟩
noncomputable abbrev eFormL : DS → Res D := eFn d__law_form (asCons (aVar 2) (asCons (aVar 14) (asCons (aOf (eOp2 ixD (aOf (eOwn (nLst (asCons (aOf (eC (.int 2))) (asCons (aOf (eC (.int 9))) (asCons (aOf (eC (.int 17))) asNil)))))) (aOf (eFn d__law_take (asCons (aVar 2) (asCons (aOf (eC (.int 3))) asNil)))))) asNil)))
theorem eFormL_sp (p d : Int) (h1 : 1 ≤ d) (h3 : d ≤ 3) (a0 a1 a3 a4 a5 a6 a7 a8 a9 a10 a11 a12 a13 a15 : Slot) : ∃ (t : Tb) (p' : Int), Ok d 17 t ∧ eFormL [a0, a1, .ow false (.l [.int p]), a3, a4, a5, a6, a7, a8, a9, a10, a11, a12, a13, .sh (.int d), a15] = .ok (.dT (tbl t)) [a0, a1, .ow false (.l [.int p']), a3, a4, a5, a6, a7, a8, a9, a10, a11, a12, a13, .sh (.int d), a15] := by
  obtain ⟨g, p1, g10, g11, t1⟩ := take_ex p 3 (by omega) (by omega)
  have hg : g = 0 ∨ g = 1 ∨ g = 2 := by omega
  rcases hg with rfl | rfl | rfl
  · obtain ⟨v, os, e, t, p', rfl, rfl, o⟩ := form_sp p1 d 2 h1 h3 (by decide) (by decide)
    exact ⟨t, p', ok_mono o (by decide), by simp [t1, e]⟩
  · obtain ⟨v, os, e, t, p', rfl, rfl, o⟩ := form_sp p1 d 9 h1 h3 (by decide) (by decide)
    exact ⟨t, p', ok_mono o (by decide), by simp [t1, e]⟩
  · obtain ⟨v, os, e, t, p', rfl, rfl, o⟩ := form_sp p1 d 17 h1 h3 (by decide) (by decide)
    exact ⟨t, p', ok_mono o (by decide), by simp [t1, e]⟩
/-- the number at one key put otherwise -/
theorem ok_put {d : Int} {B : Nat} {t : Tb} (o : Ok d B t) {p : P3} (hp : p ∈ keys t) {n : Int} (h0 : n ≠ 0) (hn : n.natAbs ≤ B + 2) : Ok d (B + 2) (put t p n) := by
  refine ⟨⟨nd_put o.gd.nd p n, fun x hx => ?_⟩, put_ne' t p n, fun q hq => ?_, fun x hx => ?_⟩
  · rcases mem_put hx with rfl | w
    · exact h0
    · exact o.gd.nz x w
  · rw [keys_put, if_pos hp] at hq
    exact o.hom q hq
  · rcases mem_put hx with rfl | w
    · exact hn
    · have := o.bd x w
      omega
def bentN (n : Int) : Int := n + 1 + if n = -1 then 1 else 0
theorem bentN_ok {n : Int} (h : n ≠ 0) : bentN n ≠ 0 ∧ (bentN n).natAbs ≤ n.natAbs + 2 := by
  unfold bentN
  split <;> omega
noncomputable abbrev bAll : DS → Res Fl := (frz 12 (sIf (tNotD (DL.tB (eCall (on1 allD) (asCons (aOf (eOwn (walkS 12 (lcRun [15] (gNm 15) tYesD (eFn d__law_good (asCons (aVar 13) (asCons (aVar 15) asNil))))))) asNil)))) (sRet (eC (.bl false))) sNil))
theorem all_true {α : Type} (L : List α) : allD (.lst (L.map fun _ => D.bl true)) = some (.bl true) := by
  have h : blsD (L.map fun _ => D.bl true) = some (L.map fun _ => true) := by
    induction L with
    | nil => rfl
    | cons x L ih => simp [blsD, ih]
  have h2 : ((L.map fun _ => true).all id) = true := by
    simp
  unfold allD
  simp only [h, Option.map_some, h2]
theorem key_at {P : Tb} {g : Int} (h0 : 0 ≤ g) (h1 : g < P.length) : ∃ x ∈ P, ixD (.lst ((keys (sorted P)).reverse.map pD)) (.int g) = some (pD x.1) := by
  obtain ⟨j, rfl⟩ := Int.eq_ofNat_of_zero_le h0
  have hl : (keys (sorted P)).reverse.length = P.length := by
    rw [List.length_reverse, keys_len, (sorted_perm P).length_eq]
  have hj : j < (keys (sorted P)).reverse.length := by omega
  have hm : (keys (sorted P)).reverse[j] ∈ keys P := by
    have := List.getElem_mem hj
    rw [List.mem_reverse] at this
    exact ((sorted_perm P).map _).mem_iff.mp this
  obtain ⟨x, hx, ex⟩ := List.mem_map.mp hm
  refine ⟨x, hx, ?_⟩
  have hv : (keys (sorted P)).reverse[j]? = some x.1 := by rw [List.getElem?_eq_getElem hj, ← ex]
  obtain ⟨l, hl⟩ : ∃ l, l = (keys (sorted P)).reverse := ⟨_, rfl⟩
  rw [← hl] at hv ⊢
  simp [atI_pos _ h0, hv]
set_option maxHeartbeats 2000000 in
theorem law_run (ns : List Int) : runD d_law [.sh (.scr ns)] = .ok (.bl true) [.no] := by
  refine runD_of ?_
  rw [show m_law = sSeq _ (sRet (eC (.bl true))) from rfl, sSeq_ap, sat_bind]
  show Sat (sFor (rng1D (eC (.int 4))) (gNm 1) _ _) _
  have hr : rng1D (eC (.int 4)) ([.sh (.scr ns)] ++ List.replicate (16 - [Slot.sh (.scr ns)].length) .no) = .ok ([0, 1, 2, 3].map D.int) ([.sh (.scr ns)] ++ List.replicate (16 - [Slot.sh (.scr ns)].length) .no) := by
    simp [List.range_succ]
  rw [sFor_ap, hr]
  obtain ⟨I, hI⟩ : ∃ I : List Int → DS → Prop, ∀ rest s, I rest s ↔ ∃ a1 a2 a3 a4 a5 a6 a7 a8 a9 a10 a11 a12 a13 : Slot, (a1.pin = false ∧ a2.pin = false ∧ a3.pin = false ∧ a4.pin = false ∧ a5.pin = false ∧ a6.pin = false ∧ a7.pin = false ∧ a8.pin = false ∧ a9.pin = false ∧ a10.pin = false ∧ a11.pin = false ∧ a12.pin = false ∧ a13.pin = false) ∧ s = [.sh (.scr ns), a1, a2, a3, a4, a5, a6, a7, a8, a9, a10, a11, a12, a13, .no, .no] := ⟨_, fun _ _ => Iff.rfl⟩
  refine sat_for D.int I rfl ((hI _ _).mpr ⟨.no, .no, .no, .no, .no, .no, .no, .no, .no, .no, .no, .no, .no, ⟨rfl, rfl, rfl, rfl, rfl, rfl, rfl, rfl, rfl, rfl, rfl, rfl, rfl⟩, rfl⟩) (fun k ks s hk h => ?_) fun s h => ?_
  · obtain ⟨a1, a2, a3, a4, a5, a6, a7, a8, a9, a10, a11, a12, a13, ⟨q1, q2, q3, q4, q5, q6, q7, q8, q9, q10, q11, q12, q13⟩, rfl⟩ := (hI _ _).mp h
    have hk : k ∈ [(0 : Int), 1, 2, 3] := hk.subset (by simp)
    have hk0 : 0 ≤ k ∧ k < 4 := by simp at hk; omega
    obtain ⟨_, hc, v, rfl, v0, v1⟩ := cell_sp ns k hk0.1 (by omega)
    refine ⟨[.sh (.scr ns), .sh (.int k), a2, a3, a4, a5, a6, a7, a8, a9, a10, a11, a12, a13, .no, .no], by simp [q1], ?_⟩
    refine sat_seq [.sh (.scr ns), .sh (.int k), .ow false (.l [.int v]), a3, a4, a5, a6, a7, a8, a9, a10, a11, a12, a13, .no, .no] (by simp [hc, q2]) ?_
    obtain ⟨g0, p0, g00, g01, t0⟩ := take_ex v 3 (by omega) (by omega)
    obtain ⟨d, e, hd1, he1, h3, hix⟩ : ∃ d e : Int, 1 ≤ d ∧ 1 ≤ e ∧ d + e ≤ 3 ∧ ixD (.lst [.tup [.int 1, .int 1], .tup [.int 1, .int 2], .tup [.int 2, .int 1]]) (.int g0) = some (.tup [.int d, .int e]) := by
      have hg : g0 = 0 ∨ g0 = 1 ∨ g0 = 2 := by omega
      rcases hg with rfl | rfl | rfl
      · exact ⟨1, 1, by decide, by decide, by decide, rfl⟩
      · exact ⟨1, 2, by decide, by decide, by decide, rfl⟩
      · exact ⟨2, 1, by decide, by decide, by decide, rfl⟩
    refine sat_seq [.sh (.scr ns), .sh (.int k), .ow false (.l [.int p0]), .sh (.tup [.int d, .int e]), a4, a5, a6, a7, a8, a9, a10, a11, a12, a13, .no, .no] (by simp [t0, hix, q3, -ixD_sq]) ?_
    obtain ⟨L, p1, oL, hL⟩ := eFormL_sp p0 d (by omega) (by omega) (.sh (.scr ns)) (.sh (.int k)) (.sh (.tup [.int d, .int e])) a4 a5 a6 a7 a8 a9 a10 a11 a12 a13 .no
    obtain ⟨R, p2, oR, hR⟩ := eFormL_sp p1 e (by omega) (by omega) (.sh (.scr ns)) (.sh (.int k)) (.sh (.tup [.int d, .int e])) a4 a5 a6 a7 a8 a9 a10 a11 a12 a13 .no
    have hlc : walkS 3 (lcRun [14] (gNm 14) tYesD eFormL) [.sh (.scr ns), .sh (.int k), .ow false (.l [.int p0]), .sh (.tup [.int d, .int e]), a4, a5, a6, a7, a8, a9, a10, a11, a12, a13, .no, .no] = .ok (.l [.dT (tbl L), .dT (tbl R)]) [.sh (.scr ns), .sh (.int k), .ow false (.l [.int p2]), .sh (.tup [.int d, .int e]), a4, a5, a6, a7, a8, a9, a10, a11, a12, a13, .no, .no] := by
      show lcRun [14] (gNm 14) tYesD eFormL [.int d, .int e] _ = _
      unfold lcRun
      rw [if_pos ⟨rfl, size_2⟩]
      simp [lcM, hL, hR, -eFn_ap]
    refine sat_seq [.sh (.scr ns), .sh (.int k), .ow false (.l [.int p2]), .sh (.tup [.int d, .int e]), .sh (.dT (tbl L)), .sh (.dT (tbl R)), a6, a7, a8, a9, a10, a11, a12, a13, .no, .no] ?_ ?_
    · simp only [sAsg_ap, eOwn_ap, hlc, Res.bind]
      simp [q4, q5]
    have mL := made_sp oL (by omega) (by omega) (by decide)
    have mR := made_sp oR (by omega) (by omega) (by decide)
    have pp := lproduct_sp oL oR (by omega) (by omega) (by omega) (by omega) (by decide) (by decide)
    have lL := oL.len (by omega) (by omega)
    have lR := oR.len (by omega) (by omega)
    have oP : Ok (d + e) (100 * 289) (prod L R) := ok_mono (ok_prod oL oR) (by
      have := Nat.mul_le_mul lL (Nat.mul_le_mul lR (Nat.le_refl (17 * 17)))
      omega)
    have mP := made_sp oP (by omega) (by omega) (by decide)
    obtain ⟨cP, v1'⟩ := over_prod oL oR hd1 he1 h3
    obtain ⟨cP', v2'⟩ := over_prod oR oL he1 hd1 (by omega)
    have ecomm : norm (prod R L) = norm (prod L R) := norm_prod_comm oL.gd oR.gd oL.ne oR.ne
    rw [ecomm, Int.add_comm e d] at v2' cP'
    have cL : Cv d (norm L) := cv_norm oL (by decide) (by omega) (by omega)
    have cR : Cv e (norm R) := cv_norm oR (by decide) (by omega) (by omega)
    have o1 := over_sp cP cL
    have o2 := over_sp cP cR
    rw [v1'] at o1
    rw [v2'] at o2
    obtain ⟨P, hP⟩ : ∃ P, P = prod L R := ⟨_, rfl⟩
    rw [← hP] at pp oP mP cP o1 o2
    obtain ⟨nL, hnL⟩ : ∃ nL, nL = norm L := ⟨_, rfl⟩
    obtain ⟨nR, hnR⟩ : ∃ nR, nR = norm R := ⟨_, rfl⟩
    obtain ⟨nP, hnP⟩ : ∃ nP, nP = norm P := ⟨_, rfl⟩
    rw [← hnL] at mL cL o1 o2
    rw [← hnR] at mR cR o1 o2
    rw [← hnP] at mP cP o1 o2
    refine sat_seq [.sh (.scr ns), .sh (.int k), .ow false (.l [.int p2]), .sh (.tup [.int d, .int e]), .sh (.dT (tbl L)), .sh (.dT (tbl R)), .sh (cvD d nL), a7, a8, a9, a10, a11, a12, a13, .no, .no] (by simp [mL, q6]) ?_
    refine sat_seq [.sh (.scr ns), .sh (.int k), .ow false (.l [.int p2]), .sh (.tup [.int d, .int e]), .sh (.dT (tbl L)), .sh (.dT (tbl R)), .sh (cvD d nL), .sh (cvD e nR), a8, a9, a10, a11, a12, a13, .no, .no] (by simp [mR, q7]) ?_
    refine sat_seq [.sh (.scr ns), .sh (.int k), .ow false (.l [.int p2]), .sh (.tup [.int d, .int e]), .sh (.dT (tbl L)), .sh (.dT (tbl R)), .sh (cvD d nL), .sh (cvD e nR), .sh (.dT (tbl P)), a9, a10, a11, a12, a13, .no, .no] (by simp [pp, q8]) ?_
    refine sat_seq [.sh (.scr ns), .sh (.int k), .ow false (.l [.int p2]), .sh (.tup [.int d, .int e]), .sh (.dT (tbl L)), .sh (.dT (tbl R)), .sh (cvD d nL), .sh (cvD e nR), .sh (.dT (tbl P)), .sh (cvD (d + e) nP), a10, a11, a12, a13, .no, .no] (by simp [mP, q9]) ?_
    have eL := eq_sp d nL
    have eR := eq_sp e nR
    refine sat_seq [.sh (.scr ns), .sh (.int k), .ow false (.l [.int p2]), .sh (.tup [.int d, .int e]), .sh (.dT (tbl L)), .sh (.dT (tbl R)), .sh (cvD d nL), .sh (cvD e nR), .sh (.dT (tbl P)), .sh (cvD (d + e) nP), a10, a11, a12, a13, .no, .no] (by
      have hov : ∀ (d : Int) (t : Tb), (cvF d t).lookup ("over" : Str) = none := fun _ _ => rfl
      unfold cvD at *
      simp [o1, o2, eL, eR, hov]) ?_
    have lP := oP.len (by omega) (by omega)
    have lP0 : 0 < P.length := by
      cases hP2 : P with
      | nil => exact absurd hP2 oP.ne
      | cons x t => simp
    obtain ⟨g1, p3, g10, g11, t1⟩ := take_ex p2 P.length (by omega) (by omega)
    obtain ⟨x, hx, hxi⟩ := key_at g10 g11
    have hsort := sortD_tup (t := P) (by omega)
    rw [List.map_reverse] at hxi
    refine sat_seq [.sh (.scr ns), .sh (.int k), .ow false (.l [.int p3]), .sh (.tup [.int d, .int e]), .sh (.dT (tbl L)), .sh (.dT (tbl R)), .sh (cvD d nL), .sh (cvD e nR), .sh (.dT (tbl P)), .sh (cvD (d + e) nP), .sh (pD x.1), a11, a12, a13, .no, .no] (by simp [hsort, t1, hxi, q10, -sortD_sq, -ixD_sq]) ?_
    have sP := safe_hm oP.hm (by omega) (by omega)
    refine sat_seq [.sh (.scr ns), .sh (.int k), .ow false (.l [.int p3]), .sh (.tup [.int d, .int e]), .sh (.dT (tbl L)), .sh (.dT (tbl R)), .sh (cvD d nL), .sh (cvD e nR), .sh (.dT (tbl P)), .sh (cvD (d + e) nP), .sh (pD x.1), .ow false (.T (tbl P)), a12, a13, .no, .no] (by simp [sP, q11]) ?_
    have ixx := ix_tbl oP.gd.nd hx
    have hal : P.length < sizeLine := by unfold sizeLine; omega
    obtain ⟨w, hw⟩ : ∃ w, w = put P x.1 (bentN x.2) := ⟨_, rfl⟩
    refine sat_seq [.sh (.scr ns), .sh (.int k), .ow false (.l [.int p3]), .sh (.tup [.int d, .int e]), .sh (.dT (tbl L)), .sh (.dT (tbl R)), .sh (cvD d nL), .sh (cvD e nR), .sh (.dT (tbl P)), .sh (cvD (d + e) nP), .sh (pD x.1), .ow false (.T (tbl w)), a12, a13, .no, .no] (by
      rw [hw]
      by_cases h1 : x.2 = -1
      · simp [ixx, hal, h1, bentN, -ixD_sq]
      · simp [ixx, hal, h1, bentN, -ixD_sq]) ?_
    have bo := bentN_ok (oP.gd.nz x hx)
    have oW : Ok (d + e) (100 * 289 + 2) w := by
      rw [hw]
      have := oP.bd x hx
      exact ok_put oP (List.mem_map_of_mem (f := (·.1)) hx) bo.1 (by omega)
    have mW := made_sp oW (by omega) (by omega) (by decide)
    obtain ⟨_, _, ef, f, p4, rfl, rfl, oF⟩ := form_sp p3 3 2 (by decide) (by decide) (by decide) (by decide)
    obtain ⟨_, _, eg, g, p5, rfl, rfl, oG⟩ := form_sp p4 1 2 (by decide) (by decide) (by decide) (by decide)
    have mF := made_sp oF (by decide) (by decide) (by decide)
    have mG := made_sp oG (by decide) (by decide) (by decide)
    have c5 : Cv 3 (norm f) := cv_norm oF (by decide) (by decide) (by decide)
    have c6 : Cv 1 (norm g) := cv_norm oG (by decide) (by decide) (by decide)
    obtain ⟨cs, hcs⟩ : ∃ cs : List (Int × Tb), cs = [(d, nL), (e, nR), (d + e, nP), (d + e, norm w), (3, norm f), (1, norm g)] := ⟨_, rfl⟩
    have cv : ∀ c ∈ cs, Cv c.1 c.2 := by
      intro c hc
      rw [hcs] at hc
      simp only [List.mem_cons, List.mem_nil_iff, or_false] at hc
      rcases hc with rfl | rfl | rfl | rfl | rfl | rfl
      · exact cL
      · exact cR
      · exact cP
      · exact cv_norm oW (by decide) (by omega) (by omega)
      · exact c5
      · exact c6
    have lcs : cs.length = 6 := by rw [hcs]; rfl
    refine sat_seq [.sh (.scr ns), .sh (.int k), .ow false (.l [.int p5]), .sh (.tup [.int d, .int e]), .sh (.dT (tbl L)), .sh (.dT (tbl R)), .sh (cvD d nL), .sh (cvD e nR), .sh (.dT (tbl P)), .sh (cvD (d + e) nP), .sh (pD x.1), .sh (.dT (tbl w)), .ow false (.l (cs.map fun c => cvD c.1 c.2)), a13, .no, .no] (by
      rw [hcs]
      simp [mW, ef, mF, eg, mG, q12]) ?_
    show Sat (frz 12 (sForS 12 (gNm 13) bAll) _) _
    have hfz : frz 12 (sForS 12 (gNm 13) bAll) [.sh (.scr ns), .sh (.int k), .ow false (.l [.int p5]), .sh (.tup [.int d, .int e]), .sh (.dT (tbl L)), .sh (.dT (tbl R)), .sh (cvD d nL), .sh (cvD e nR), .sh (.dT (tbl P)), .sh (cvD (d + e) nP), .sh (pD x.1), .sh (.dT (tbl w)), .ow false (.l (cs.map fun c => cvD c.1 c.2)), a13, .no, .no] = DL.forM (gNm 13) bAll (cs.map fun c => cvD c.1 c.2) [.sh (.scr ns), .sh (.int k), .ow false (.l [.int p5]), .sh (.tup [.int d, .int e]), .sh (.dT (tbl L)), .sh (.dT (tbl R)), .sh (cvD d nL), .sh (cvD e nR), .sh (.dT (tbl P)), .sh (cvD (d + e) nP), .sh (pD x.1), .sh (.dT (tbl w)), .sh (.lst (cs.map fun c => cvD c.1 c.2)), a13, .no, .no] := rfl
    rw [hfz]
    obtain ⟨J, hJ⟩ : ∃ J : List (Int × Tb) → DS → Prop, ∀ rest s, J rest s ↔ ∃ c : Slot, c.pin = false ∧ s = [.sh (.scr ns), .sh (.int k), .ow false (.l [.int p5]), .sh (.tup [.int d, .int e]), .sh (.dT (tbl L)), .sh (.dT (tbl R)), .sh (cvD d nL), .sh (cvD e nR), .sh (.dT (tbl P)), .sh (cvD (d + e) nP), .sh (pD x.1), .sh (.dT (tbl w)), .sh (.lst (cs.map fun c => cvD c.1 c.2)), c, .no, .no] := ⟨_, fun _ _ => Iff.rfl⟩
    refine sat_for (fun c : Int × Tb => cvD c.1 c.2) J rfl ((hJ _ _).mpr ⟨a13, q13, rfl⟩) (fun c rest s hc h => ?_) fun s h => ?_
    · obtain ⟨sl, hs, rfl⟩ := (hJ _ _).mp h
      have hcc := cv c (hc.subset (by simp))
      refine ⟨[.sh (.scr ns), .sh (.int k), .ow false (.l [.int p5]), .sh (.tup [.int d, .int e]), .sh (.dT (tbl L)), .sh (.dT (tbl R)), .sh (cvD d nL), .sh (cvD e nR), .sh (.dT (tbl P)), .sh (cvD (d + e) nP), .sh (pD x.1), .sh (.dT (tbl w)), .sh (.lst (cs.map fun c => cvD c.1 c.2)), .sh (cvD c.1 c.2), .no, .no], by simp [hs], ?_⟩
      have el := lc_m (vs := [15]) (g := gNm 15) (e := eFn d__law_good (asCons (aVar 13) (asCons (aVar 15) asNil))) (fun c : Int × Tb => cvD c.1 c.2) (fun _ => D.bl true) (ts0 := cs) (items := cs.map fun c => cvD c.1 c.2) (s0 := [.sh (.scr ns), .sh (.int k), .ow false (.l [.int p5]), .sh (.tup [.int d, .int e]), .sh (.dT (tbl L)), .sh (.dT (tbl R)), .sh (cvD d nL), .sh (cvD e nR), .sh (.dT (tbl P)), .sh (cvD (d + e) nP), .sh (pD x.1), .sh (.dT (tbl w)), .sh (.lst (cs.map fun c => cvD c.1 c.2)), .sh (cvD c.1 c.2), .no, .no]) rfl rfl (le_size (by omega)) (fun c2 h2 => ⟨_, rfl, by
        have gd := good_sp hcc (cv c2 h2)
        simp [gd], rfl⟩)
      have wl : walkS 12 (lcRun [15] (gNm 15) tYesD (eFn d__law_good (asCons (aVar 13) (asCons (aVar 15) asNil)))) [.sh (.scr ns), .sh (.int k), .ow false (.l [.int p5]), .sh (.tup [.int d, .int e]), .sh (.dT (tbl L)), .sh (.dT (tbl R)), .sh (cvD d nL), .sh (cvD e nR), .sh (.dT (tbl P)), .sh (cvD (d + e) nP), .sh (pD x.1), .sh (.dT (tbl w)), .sh (.lst (cs.map fun c => cvD c.1 c.2)), .sh (cvD c.1 c.2), .no, .no] = .ok (.l (cs.map fun _ => D.bl true)) [.sh (.scr ns), .sh (.int k), .ow false (.l [.int p5]), .sh (.tup [.int d, .int e]), .sh (.dT (tbl L)), .sh (.dT (tbl R)), .sh (cvD d nL), .sh (cvD e nR), .sh (.dT (tbl P)), .sh (cvD (d + e) nP), .sh (pD x.1), .sh (.dT (tbl w)), .sh (.lst (cs.map fun c => cvD c.1 c.2)), .sh (cvD c.1 c.2), .no, .no] := el
      have wa := all_true cs
      simp [wl, wa, -walkS_ap, -allD_sq]
      exact (hJ _ _).mpr ⟨_, pin_sh _, rfl⟩
    · obtain ⟨sl, hs, rfl⟩ := (hJ _ _).mp h
      exact (hI _ _).mpr ⟨_, _, _, _, _, _, _, _, _, _, _, _, _, ⟨pin_sh _, rfl, pin_sh _, pin_sh _, pin_sh _, pin_sh _, pin_sh _, pin_sh _, pin_sh _, pin_sh _, pin_sh _, pin_sh _, hs⟩, rfl⟩
  · obtain ⟨a1, a2, a3, a4, a5, a6, a7, a8, a9, a10, a11, a12, a13, ⟨q1, q2, q3, q4, q5, q6, q7, q8, q9, q10, q11, q12, q13⟩, rfl⟩ := (hI _ _).mp h
    simp
theorem law_true (ns : List Int) : ∃ outs, d_law [.sh (.scr ns)] = .ok (.bl true) outs := runD_ok (law_run ns)
end LW

set_option autoImplicit true
namespace LW
open PySem PySem.Spec PyProof.Rows L2 DL
def freeL : List Str := ["abs", "all", "bool", "dict", "enumerate", "int", "isinstance", "len", "list", "max", "min", "range", "repr", "sorted", "sum", "tuple"]
/-- what the top has written -/
structure Tp (K : PySem.W.Frag) (mg : Str → Option Value) : Prop where
  free : ∀ x, freeL.contains x = true → mg x = none
  ci_MOST_DEGREE : ∃ t, mg "MOST_DEGREE" = some (.int 3 t)
  ci_MOST_TERMS : ∃ t, mg "MOST_TERMS" = some (.int 10 t)
  att_Curve_degree : ∃ C, mg "Curve" = some (.ref C) ∧ Cls K C ∧ NoAttr K C "degree"
  att_Curve_terms : ∃ C, mg "Curve" = some (.ref C) ∧ Cls K C ∧ NoAttr K C "terms"
  ist_bool : ∀ c, osL.contains c = true → ∃ C, mg c = some (.ref C) ∧ InsF K C ∧ PySem.W.kitOne K (.ref C) (.type "bool") = some false
  ist_int : ∀ c, osL.contains c = true → ∃ C, mg c = some (.ref C) ∧ InsF K C ∧ PySem.W.kitOne K (.ref C) (.type "int") = some false
  ist_list : ∀ c, osL.contains c = true → ∃ C, mg c = some (.ref C) ∧ InsF K C ∧ PySem.W.kitOne K (.ref C) (.type "list") = some false
  ist_tuple : ∀ c, osL.contains c = true → ∃ C, mg c = some (.ref C) ∧ InsF K C ∧ PySem.W.kitOne K (.ref C) (.type "tuple") = some false
  isc_Curve : ∃ C0, mg "Curve" = some (.ref C0) ∧ (∀ t ∈ tnames, PySem.W.kitOne K (.type t) (.ref C0) = some false) ∧ ∀ c, osL.contains c = true → ∃ C, mg c = some (.ref C) ∧ InsF K C ∧ PySem.W.kitOne K (.ref C) (.ref C0) = some (c == "Curve")
section
variable {P : Program} {w : World} {K : PySem.W.Frag} {mg : Str → Option Value} {base : Heap}
theorem sc__law_mixed : FnScope ["_law_cell_here", "_law_k", "_law_number"] ["_law_cell_here", "_law_k"] (defScope s__law_mixed) := ⟨rfl, rfl, rfl, by decide +kernel, rfl, by decide +kernel, by decide +kernel⟩
theorem ok__law_mixed {f : Addr} {fd : FuncData} (T : Tp K mg)  (F : Fun K "_law_mixed" "_law_mixed" s__law_mixed f fd) : FnOk P w K mg base (L2.CX P w) 1 f fd (["_law_cell_here", "_law_k"] : List Str) (spD K mg (["_law_cell_here", "_law_k"] : List Str).length d__law_mixed) :=
  fn_D (k := 0) F sc__law_mixed fun cdv A outer s H E C => by
    have nd := (sc__law_mixed).nd
    unfold m__law_mixed
    exact (dss_cons (ds_set (i := 2) nd (de_mod (da_of (de_add (da_of (de_add (da_of (de_mul (da_of (de_mod (da_var 0) (da_of de_int))) (da_of de_int))) (da_of (de_mul (da_var 1) (da_of de_int))))) (da_of de_int))) (da_of de_int))) (dss_cons (ds_set (i := 2) nd (de_mod (da_of (de_mul (da_var 2) (da_var 2))) (da_of de_int))) (dss_one (ds_ret (de_mod (da_of (de_mul (da_var 2) (da_of (de_add (da_var 2) (da_of de_int))))) (da_of de_int))))))
theorem sc__law_cell : FnScope ["_law_script", "_law_k", "_law_cell_here", "_law_found", "_law_j"] ["_law_script", "_law_k"] (defScope s__law_cell) := ⟨rfl, rfl, rfl, by decide +kernel, rfl, by decide +kernel, by decide +kernel⟩
theorem ok__law_cell {f : Addr} {fd : FuncData} (T : Tp K mg) (D__law_mixed : ∃ f fd, FnOk P w K mg base (L2.CX P w) 1 f fd (["_law_cell_here", "_law_k"] : List Str) (spD K mg (["_law_cell_here", "_law_k"] : List Str).length d__law_mixed) ∧ mg "_law_mixed" = some (.ref f) ∧ PySem.W.keepIn K (.ref f) = true ∧ Binds K fd (["_law_cell_here", "_law_k"] : List Str) []) (F : Fun K "_law_cell" "_law_cell" s__law_cell f fd) : FnOk P w K mg base (L2.CX P w) 2 f fd (["_law_script", "_law_k"] : List Str) (spD K mg (["_law_script", "_law_k"] : List Str).length d__law_cell) :=
  fn_D (k := 1) F sc__law_cell fun cdv A outer s H E C => by
    have nd := (sc__law_cell).nd
    unfold m__law_cell
    exact (dss_cons (ds_set (i := 2) nd de_int) (dss_cons (ds_if (dt_cmp op_lt s_lt (da_var 1) (da_of (de_len (T.free "len" (by decide)) (das_cons (da_var 0) das_nil)))) (dss_one (ds_set (i := 2) nd (de_ixA C (da_var 0) (da_var 1)))) dss_nil) (dss_cons (ds_if (dt_cmp op_ge s_ge (da_var 2) (da_of (de_pow (da_of de_int) (da_of de_int)))) (dss_one (ds_ret (de_mod (da_of (de_sub (da_var 2) (da_of (de_pow (da_of de_int) (da_of de_int))))) (da_of (de_mul (da_of (de_mul (da_of (de_mul (da_of (de_pow (da_of de_int) (da_of de_int))) (da_of (de_pow (da_of de_int) (da_of de_int))))) (da_of (de_pow (da_of de_int) (da_of de_int))))) (da_of (de_pow (da_of de_int) (da_of de_int)))))))) dss_nil) (dss_cons (ds_set (i := 3) nd de_int) (dss_cons (ds_for C (di_range1 (T.free "range" (by decide)) de_int) (dg_nm (i := 4) nd) (dss_one (ds_set (i := 3) nd (de_add (da_of (de_mul (da_var 3) (da_of de_int))) (da_of (de_fn C ⟨D__law_mixed⟩ (by decide) (das_cons (da_var 2) (das_cons (da_of (de_add (da_of (de_add (da_of (de_mul (da_of de_int) (da_var 1))) (da_of (de_mul (da_of de_int) (da_var 4))))) (da_of (de_mul (da_var 4) (da_var 4))))) das_nil)) (arlen1 (arlen1 arlen0)))))))) (dss_one (ds_ret (de_var 3))))))))
theorem sc__law_take : FnScope ["_law_pile", "_law_size", "_law_digit"] ["_law_pile", "_law_size"] (defScope s__law_take) := ⟨rfl, rfl, rfl, by decide +kernel, rfl, by decide +kernel, by decide +kernel⟩
theorem ok__law_take {f : Addr} {fd : FuncData} (T : Tp K mg)  (F : Fun K "_law_take" "_law_take" s__law_take f fd) : FnOk P w K mg base (L2.CX P w) 1 f fd (["_law_pile", "_law_size"] : List Str) (spD K mg (["_law_pile", "_law_size"] : List Str).length d__law_take) :=
  fn_D (k := 0) F sc__law_take fun cdv A outer s H E C => by
    have nd := (sc__law_take).nd
    unfold m__law_take
    exact (dss_cons (ds_set (i := 2) nd (de_mod (da_of (de_ixA C (da_var 0) (da_of de_int))) (da_var 1))) (dss_cons (ds_put 0 C (de_div (da_of (de_ixA C (da_var 0) (da_of de_int))) (da_var 1)) de_int) (dss_one (ds_ret (de_var 2)))))
theorem sc__law_powers : FnScope ["_law_size", "_law_found", "_law_a", "_law_b"] ["_law_size"] (defScope s__law_powers) := ⟨rfl, rfl, rfl, by decide +kernel, rfl, by decide +kernel, by decide +kernel⟩
theorem ok__law_powers {f : Addr} {fd : FuncData} (T : Tp K mg)  (F : Fun K "_law_powers" "_law_powers" s__law_powers f fd) : FnOk P w K mg base (L2.CX P w) 1 f fd (["_law_size"] : List Str) (spD K mg (["_law_size"] : List Str).length d__law_powers) :=
  fn_D (k := 0) F sc__law_powers fun cdv A outer s H E C => by
    have nd := (sc__law_powers).nd
    unfold m__law_powers
    exact (dss_cons (ds_setO (i := 1) nd (dn_lst das_nil arlen0)) (dss_cons (ds_for C (di_rangeD (T.free "range" (by decide)) (de_var 0) (de_neg (da_of de_int)) (de_neg (da_of de_int))) (dg_nm (i := 2) nd) (dss_one (ds_set (i := 1) nd (de_add (da_var 1) (da_of (de_own (dn_lc C.calm nd (di_rangeD (T.free "range" (by decide)) (de_sub (da_var 0) (da_var 2)) (de_neg (da_of de_int)) (de_neg (da_of de_int))) (Blk.mkC (own := [("_law_b", 3)]) C (show BlkOk ["_law_size", "_law_found", "_law_a", "_law_b"] (defScope s__law_powers) _ [("_law_b", 3)] from ⟨rfl, by decide +kernel, by decide +kernel, by first | decide +kernel | (refine no_free ?_; decide +kernel), by first | decide +kernel | (refine no_free ?_; decide +kernel)⟩) (by decide) (fun s H Cb cl fp C => (dg_nm (i := 3) nd)) (fun s H Cb cl fp C => dts_nil) (fun s H Cb cl fp C => (de_tup (das_cons (da_of (de_var 2)) (das_cons (da_of (de_var 3)) (das_cons (da_of (de_sub (da_of (de_sub (da_var 0) (da_var 2))) (da_var 3))) das_nil))) (arlen1 (arlen1 (arlen1 arlen0))))))))))))) (dss_one (ds_ret (de_var 1)))))
theorem sc__law_form : FnScope ["_law_pile", "_law_size", "_law_most", "_law_found", "_law_powers_here", "_law_number"] ["_law_pile", "_law_size", "_law_most"] (defScope s__law_form) := ⟨rfl, rfl, rfl, by decide +kernel, rfl, by decide +kernel, by decide +kernel⟩
theorem ok__law_form {f : Addr} {fd : FuncData} (T : Tp K mg) (D__law_take : ∃ f fd, FnOk P w K mg base (L2.CX P w) 1 f fd (["_law_pile", "_law_size"] : List Str) (spD K mg (["_law_pile", "_law_size"] : List Str).length d__law_take) ∧ mg "_law_take" = some (.ref f) ∧ PySem.W.keepIn K (.ref f) = true ∧ Binds K fd (["_law_pile", "_law_size"] : List Str) []) (D__law_powers : ∃ f fd, FnOk P w K mg base (L2.CX P w) 1 f fd (["_law_size"] : List Str) (spD K mg (["_law_size"] : List Str).length d__law_powers) ∧ mg "_law_powers" = some (.ref f) ∧ PySem.W.keepIn K (.ref f) = true ∧ Binds K fd (["_law_size"] : List Str) []) (F : Fun K "_law_form" "_law_form" s__law_form f fd) : FnOk P w K mg base (L2.CX P w) 2 f fd (["_law_pile", "_law_size", "_law_most"] : List Str) (spD K mg (["_law_pile", "_law_size", "_law_most"] : List Str).length d__law_form) :=
  fn_D (k := 1) F sc__law_form fun cdv A outer s H E C => by
    have nd := (sc__law_form).nd
    unfold m__law_form
    exact (dss_cons (ds_setO (i := 3) nd dn_emptyT) (dss_cons (ds_for C (di_vals (de_fn C ⟨D__law_powers⟩ (by decide) (das_cons (da_var 1) das_nil) (arlen1 arlen0))) (dg_nm (i := 4) nd) (dss_cons (ds_set (i := 5) nd (de_sub (da_of (de_fn C ⟨D__law_take⟩ (by decide) (das_cons (da_var 0) (das_cons (da_of (de_add (da_of (de_mul (da_of de_int) (da_var 2))) (da_of de_int))) das_nil)) (arlen1 (arlen1 arlen0)))) (da_var 2))) (dss_one (ds_if (dt_bool (dw_and (dt_cmp (op_neD (by have := C.room.un; omega)) s_ne (da_var 5) (da_of de_int)) (dw_and1 (dt_cmp op_gt s_gt (da_of (de_fn C ⟨D__law_take⟩ (by decide) (das_cons (da_var 0) (das_cons (da_of de_int) das_nil)) (arlen1 (arlen1 arlen0)))) (da_of de_int))))) (dss_one (ds_put 3 C (de_var 5) (de_var 4))) dss_nil)))) (dss_cons (ds_if (dt_eqE C (da_var 3)) (dss_one (ds_put 3 C de_int (de_tup (das_cons (da_of (de_var 1)) (das_cons (da_of de_int) (das_cons (da_of de_int) das_nil))) (arlen1 (arlen1 (arlen1 arlen0)))))) dss_nil) (dss_one (ds_ret (de_var 3))))))
theorem sc_is_number : FnScope ["thing"] ["thing"] (defScope s_is_number) := ⟨rfl, rfl, rfl, by decide +kernel, rfl, by decide +kernel, by decide +kernel⟩
theorem ok_is_number {f : Addr} {fd : FuncData} (T : Tp K mg)  (F : Fun K "is_number" "is_number" s_is_number f fd) : FnOk P w K mg base (L2.CX P w) 1 f fd (["thing"] : List Str) (spD K mg (["thing"] : List Str).length d_is_number) :=
  fn_D (k := 0) F sc_is_number fun cdv A outer s H E C => by
    have nd := (sc_is_number).nd
    unfold m_is_number
    exact (dss_one (ds_ret (de_and (de_isiT (T := "int") ⟨by decide, T.ist_int⟩ (by decide +kernel) (T.free "isinstance" (by decide)) (T.free "int" (by decide)) (da_var 0)) (de_one (de_not (de_isiT (T := "bool") ⟨by decide, T.ist_bool⟩ (by decide +kernel) (T.free "isinstance" (by decide)) (T.free "bool" (by decide)) (da_var 0)))))))
theorem sc_is_term : FnScope ["thing", "number"] ["thing"] (defScope s_is_term) := ⟨rfl, rfl, rfl, by decide +kernel, rfl, by decide +kernel, by decide +kernel⟩
theorem ok_is_term {f : Addr} {fd : FuncData} (T : Tp K mg) (D_is_number : ∃ f fd, FnOk P w K mg base (L2.CX P w) 1 f fd (["thing"] : List Str) (spD K mg (["thing"] : List Str).length d_is_number) ∧ mg "is_number" = some (.ref f) ∧ PySem.W.keepIn K (.ref f) = true ∧ Binds K fd (["thing"] : List Str) []) (F : Fun K "is_term" "is_term" s_is_term f fd) : FnOk P w K mg base (L2.CX P w) 2 f fd (["thing"] : List Str) (spD K mg (["thing"] : List Str).length d_is_term) :=
  fn_D (k := 1) F sc_is_term fun cdv A outer s H E C => by
    have nd := (sc_is_term).nd
    unfold m_is_term
    exact (dss_cons (ds_if (dt_bool (dw_or (dt_not (dt_val (de_isiT (T := "tuple") ⟨by decide, T.ist_tuple⟩ (by decide +kernel) (T.free "isinstance" (by decide)) (T.free "tuple" (by decide)) (da_var 0)))) (dw_or (dt_cmp (op_neD (by have := C.room.un; omega)) s_ne (da_of (de_len (T.free "len" (by decide)) (das_cons (da_var 0) das_nil))) (da_of de_int)) (dw_or1 (dt_not (dt_val (de_all C (T.free "all" (by decide)) (das_cons (da_of (de_own (dn_lcS 0 C.calm nd (Blk.mkC (own := [("number", 1)]) C (show BlkOk ["thing", "number"] (defScope s_is_term) _ [("number", 1)] from ⟨rfl, by decide +kernel, by decide +kernel, by first | decide +kernel | (refine no_free ?_; decide +kernel), by first | decide +kernel | (refine no_free ?_; decide +kernel)⟩) (by decide) (fun s H Cb cl fp C => (dg_nm (i := 1) nd)) (fun s H Cb cl fp C => dts_nil) (fun s H Cb cl fp C => (de_fn C ⟨D_is_number⟩ (by decide) (das_cons (da_var 1) das_nil) (arlen1 arlen0))))))) das_nil)))))))) (dss_one (ds_ret de_bl)) dss_nil) (dss_one (ds_ret (de_and (de_cmp op_ge s_ge (da_of (de_min C (T.free "min" (by decide)) (das_cons (da_of (de_sl (da_var 0) do_none (do_some de_int))) das_nil))) (da_of de_int)) (de_and (de_chain op_le op_le s_le s_le (da_of de_int) (da_of (de_sum C (T.free "sum" (by decide)) (das_cons (da_of (de_sl (da_var 0) do_none (do_some de_int))) das_nil))) (da_of (de_globI T.ci_MOST_DEGREE))) (de_one (de_cmp (op_neD (by have := C.room.un; omega)) s_ne (da_of (de_ixA C (da_var 0) (da_of de_int))) (da_of de_int))))))))
theorem sc_look_at_terms : FnScope ["thing", "known", "place", "term"] ["thing"] (defScope s_look_at_terms) := ⟨rfl, rfl, rfl, by decide +kernel, rfl, by decide +kernel, by decide +kernel⟩
theorem ok_look_at_terms {f : Addr} {fd : FuncData} (T : Tp K mg) (D_is_term : ∃ f fd, FnOk P w K mg base (L2.CX P w) 2 f fd (["thing"] : List Str) (spD K mg (["thing"] : List Str).length d_is_term) ∧ mg "is_term" = some (.ref f) ∧ PySem.W.keepIn K (.ref f) = true ∧ Binds K fd (["thing"] : List Str) []) (F : Fun K "look_at_terms" "look_at_terms" s_look_at_terms f fd) : FnOk P w K mg base (L2.CX P w) 3 f fd (["thing"] : List Str) (spD K mg (["thing"] : List Str).length d_look_at_terms) :=
  fn_D (k := 2) F sc_look_at_terms fun cdv A outer s H E C => by
    have nd := (sc_look_at_terms).nd
    unfold m_look_at_terms
    exact (dss_cons (ds_if (dt_bool (dw_or (dt_not (dt_val (de_isiT2 (T1 := "list") (T2 := "tuple") ⟨by decide, T.ist_list⟩ ⟨by decide, T.ist_tuple⟩ (by decide +kernel) (by decide +kernel) (T.free "isinstance" (by decide)) (T.free "list" (by decide)) (T.free "tuple" (by decide)) (da_var 0)))) (dw_or (dt_cmp op_lt s_lt (da_of (de_len (T.free "len" (by decide)) (das_cons (da_var 0) das_nil))) (da_of de_int)) (dw_or1 (dt_cmp op_gt s_gt (da_of (de_len (T.free "len" (by decide)) (das_cons (da_var 0) das_nil))) (da_of (de_globI T.ci_MOST_TERMS))))))) (dss_one ds_bad) dss_nil) (dss_cons (ds_setO (i := 1) nd (dn_lst das_nil arlen0)) (dss_one (ds_for C (di_enum (T.free "enumerate" (by decide)) (de_var 0)) (dg_tup C.calm (dgs_cons (dg_nm (i := 2) nd) (dgs_cons (dg_nm (i := 3) nd) dgs_nil))) (dss_cons (ds_if (dt_bool (dw_or (dt_not (dt_val (de_fn C ⟨D_is_term⟩ (by decide) (das_cons (da_var 3) das_nil) (arlen1 arlen0)))) (dw_or (dt_cmp (op_neD (by have := C.room.un; omega)) s_ne (da_of (de_sum C (T.free "sum" (by decide)) (das_cons (da_of (de_sl (da_var 3) do_none (do_some de_int))) das_nil))) (da_of (de_sum C (T.free "sum" (by decide)) (das_cons (da_of (de_sl (da_of (de_ixA C (da_var 0) (da_of de_int))) do_none (do_some de_int))) das_nil)))) (dw_or1 (dt_cmp (op_inA C) s_in (da_of (de_sl (da_var 3) do_none (do_some de_int))) (da_var 1)))))) (dss_one ds_bad) dss_nil) (dss_one (ds_app 1 (he := (de_sl (da_var 3) do_none (do_some de_int))))))))))
theorem sc_common : FnScope ["one", "other"] ["one", "other"] (defScope s_common) := ⟨rfl, rfl, rfl, by decide +kernel, rfl, by decide +kernel, by decide +kernel⟩
theorem ok_common {f : Addr} {fd : FuncData} (T : Tp K mg)  (F : Fun K "common" "common" s_common f fd) : FnOk P w K mg base (L2.CX P w) 1 f fd (["one", "other"] : List Str) (spD K mg (["one", "other"] : List Str).length d_common) :=
  fn_D (k := 0) F sc_common fun cdv A outer s H E C => by
    have nd := (sc_common).nd
    unfold m_common
    exact (dss_cons (ds_set (i := 0) nd (de_abs (T.free "abs" (by decide)) (das_cons (da_var 0) das_nil))) (dss_cons (ds_set (i := 1) nd (de_abs (T.free "abs" (by decide)) (das_cons (da_var 1) das_nil))) (dss_cons (ds_while C (dt_cmp op_gt s_gt (da_var 1) (da_of de_int)) (dss_one (ds_par (i := 0) (j := 1) C.calm nd (das_cons (da_of (de_var 1)) (das_cons (da_of (de_mod (da_var 0) (da_var 1))) das_nil))))) (dss_one (ds_ret (de_var 0))))))
theorem sc_common_of : FnScope ["numbers", "found", "number"] ["numbers"] (defScope s_common_of) := ⟨rfl, rfl, rfl, by decide +kernel, rfl, by decide +kernel, by decide +kernel⟩
theorem ok_common_of {f : Addr} {fd : FuncData} (T : Tp K mg) (D_common : ∃ f fd, FnOk P w K mg base (L2.CX P w) 1 f fd (["one", "other"] : List Str) (spD K mg (["one", "other"] : List Str).length d_common) ∧ mg "common" = some (.ref f) ∧ PySem.W.keepIn K (.ref f) = true ∧ Binds K fd (["one", "other"] : List Str) []) (F : Fun K "common_of" "common_of" s_common_of f fd) : FnOk P w K mg base (L2.CX P w) 2 f fd (["numbers"] : List Str) (spD K mg (["numbers"] : List Str).length d_common_of) :=
  fn_D (k := 1) F sc_common_of fun cdv A outer s H E C => by
    have nd := (sc_common_of).nd
    unfold m_common_of
    exact (dss_cons (ds_set (i := 1) nd de_int) (dss_cons (ds_forS 0 C (dg_nm (i := 2) nd) (dss_one (ds_set (i := 1) nd (de_fn C ⟨D_common⟩ (by decide) (das_cons (da_var 1) (das_cons (da_var 2) das_nil)) (arlen1 (arlen1 arlen0)))))) (dss_one (ds_ret (de_var 1)))))
theorem sc_Curve_init : FnScope ["self", "terms", "share", "told", "term"] ["self", "terms"] (defScope s_Curve_init) := ⟨rfl, rfl, rfl, by decide +kernel, rfl, by decide +kernel, by decide +kernel⟩
theorem ok_Curve_init {f : Addr} {fd : FuncData} (T : Tp K mg) (D_look_at_terms : ∃ f fd, FnOk P w K mg base (L2.CX P w) 3 f fd (["thing"] : List Str) (spD K mg (["thing"] : List Str).length d_look_at_terms) ∧ mg "look_at_terms" = some (.ref f) ∧ PySem.W.keepIn K (.ref f) = true ∧ Binds K fd (["thing"] : List Str) []) (D_common_of : ∃ f fd, FnOk P w K mg base (L2.CX P w) 2 f fd (["numbers"] : List Str) (spD K mg (["numbers"] : List Str).length d_common_of) ∧ mg "common_of" = some (.ref f) ∧ PySem.W.keepIn K (.ref f) = true ∧ Binds K fd (["numbers"] : List Str) []) (F : Fun K "__init__" "Curve.__init__" s_Curve_init f fd) : FnOk P w K mg base (L2.CX P w) 4 f fd (["self", "terms"] : List Str) (spD K mg (["self", "terms"] : List Str).length d_Curve_init) :=
  fn_D (k := 3) F sc_Curve_init fun cdv A outer s H E C => by
    have nd := (sc_Curve_init).nd
    unfold m_Curve_init
    exact (dss_cons (ds_expr (de_fn C ⟨D_look_at_terms⟩ (by decide) (das_cons (da_var 1) das_nil) (arlen1 arlen0))) (dss_cons (ds_fld 0 ⟨T.att_Curve_degree⟩ (de_sum C (T.free "sum" (by decide)) (das_cons (da_of (de_sl (da_of (de_ixA C (da_var 1) (da_of de_int))) do_none (do_some de_int))) das_nil))) (dss_cons (ds_set (i := 2) nd (de_fn C ⟨D_common_of⟩ (by decide) (das_cons (da_of (de_own (dn_lcS 1 C.calm nd (Blk.mkC (own := [("term", 4)]) C (show BlkOk ["self", "terms", "share", "told", "term"] (defScope s_Curve_init) _ [("term", 4)] from ⟨rfl, by decide +kernel, by decide +kernel, by first | decide +kernel | (refine no_free ?_; decide +kernel), by first | decide +kernel | (refine no_free ?_; decide +kernel)⟩) (by decide) (fun s H Cb cl fp C => (dg_nm (i := 4) nd)) (fun s H Cb cl fp C => dts_nil) (fun s H Cb cl fp C => (de_ixA C (da_var 4) (da_of de_int))))))) das_nil) (arlen1 arlen0))) (dss_cons (ds_set (i := 3) nd (de_rev (da_of (de_own (dn_sort C (T.free "sorted" (by decide)) (das_cons (da_var 1) das_nil)))))) (dss_cons (ds_if (dt_cmp op_lt s_lt (da_of (de_ixA C (da_of (de_ixA C (da_var 3) (da_of de_int))) (da_of de_int))) (da_of de_int)) (dss_one (ds_set (i := 2) nd (de_sub (da_of de_int) (da_var 2)))) dss_nil) (dss_one (ds_fld 0 ⟨T.att_Curve_terms⟩ (de_tupC (T.free "tuple" (by decide)) (das_cons (da_of (de_own (dn_lcS 3 C.calm nd (Blk.mkC (own := [("term", 4)]) C (show BlkOk ["self", "terms", "share", "told", "term"] (defScope s_Curve_init) _ [("term", 4)] from ⟨rfl, by decide +kernel, by decide +kernel, by first | decide +kernel | (refine no_free ?_; decide +kernel), by first | decide +kernel | (refine no_free ?_; decide +kernel)⟩) (by decide) (fun s H Cb cl fp C => (dg_nm (i := 4) nd)) (fun s H Cb cl fp C => dts_nil) (fun s H Cb cl fp C => (de_add (da_of (de_sl (da_var 4) do_none (do_some de_int))) (da_of (de_tup (das_cons (da_of (de_div (da_of (de_ixA C (da_var 4) (da_of de_int))) (da_var 2))) das_nil) (arlen1 arlen0))))))))) das_nil)))))))))
theorem sc__law_made : FnScope ["_law_form_here", "_law_powers_here"] ["_law_form_here"] (defScope s__law_made) := ⟨rfl, rfl, rfl, by decide +kernel, rfl, by decide +kernel, by decide +kernel⟩
theorem ok__law_made {f : Addr} {fd : FuncData} (T : Tp K mg) (D_Curve_init : ∃ C f fd, mg "Curve" = some (.ref C) ∧ Mk K C f ∧ FnOk P w K mg base (L2.CX P w) 4 f fd (["self", "terms"] : List Str) (spD K mg (["self", "terms"] : List Str).length d_Curve_init) ∧ Binds K fd (["self", "terms"] : List Str) []) (F : Fun K "_law_made" "_law_made" s__law_made f fd) : FnOk P w K mg base (L2.CX P w) 6 f fd (["_law_form_here"] : List Str) (spD K mg (["_law_form_here"] : List Str).length d__law_made) :=
  fn_D (k := 5) F sc__law_made fun cdv A outer s H E C => by
    have nd := (sc__law_made).nd
    unfold m__law_made
    exact (dss_one (ds_ret (de_own (dn_make C ⟨D_Curve_init⟩ (by decide) (das_cons (da_of (de_own (dn_lcS 0 C.calm nd (Blk.mkC (own := [("_law_powers_here", 1)]) C (show BlkOk ["_law_form_here", "_law_powers_here"] (defScope s__law_made) _ [("_law_powers_here", 1)] from ⟨rfl, by decide +kernel, by decide +kernel, by first | decide +kernel | (refine no_free ?_; decide +kernel), by first | decide +kernel | (refine no_free ?_; decide +kernel)⟩) (by decide) (fun s H Cb cl fp C => (dg_nm (i := 1) nd)) (fun s H Cb cl fp C => dts_nil) (fun s H Cb cl fp C => (de_add (da_var 1) (da_of (de_tup (das_cons (da_of (de_ixA C (da_var 0) (da_var 1))) das_nil) (arlen1 arlen0))))))))) das_nil) (fun s as s' h => by rw [(arlen1 arlen0) s as s' h]; rfl)))))
theorem sc__law_product : FnScope ["_law_left", "_law_right", "_law_found", "_law_a", "_law_b", "_law_powers_here"] ["_law_left", "_law_right"] (defScope s__law_product) := ⟨rfl, rfl, rfl, by decide +kernel, rfl, by decide +kernel, by decide +kernel⟩
theorem ok__law_product {f : Addr} {fd : FuncData} (T : Tp K mg)  (F : Fun K "_law_product" "_law_product" s__law_product f fd) : FnOk P w K mg base (L2.CX P w) 1 f fd (["_law_left", "_law_right"] : List Str) (spD K mg (["_law_left", "_law_right"] : List Str).length d__law_product) :=
  fn_D (k := 0) F sc__law_product fun cdv A outer s H E C => by
    have nd := (sc__law_product).nd
    unfold m__law_product
    exact (dss_cons (ds_setO (i := 2) nd dn_emptyT) (dss_cons (ds_forS 0 C (dg_nm (i := 3) nd) (dss_one (ds_forS 1 C (dg_nm (i := 4) nd) (dss_cons (ds_set (i := 5) nd (de_tup (das_cons (da_of (de_add (da_of (de_ixA C (da_var 3) (da_of de_int))) (da_of (de_ixA C (da_var 4) (da_of de_int))))) (das_cons (da_of (de_add (da_of (de_ixA C (da_var 3) (da_of de_int))) (da_of (de_ixA C (da_var 4) (da_of de_int))))) (das_cons (da_of (de_add (da_of (de_ixA C (da_var 3) (da_of de_int))) (da_of (de_ixA C (da_var 4) (da_of de_int))))) das_nil))) (arlen1 (arlen1 (arlen1 arlen0))))) (dss_one (ds_put 2 C (de_add (da_of (de_get2 C (da_var 2) (da_var 5) (da_of de_int))) (da_of (de_mul (da_of (de_ixA C (da_var 0) (da_var 3))) (da_of (de_ixA C (da_var 1) (da_var 4)))))) (de_var 5))))))) (dss_one (ds_frz 2 (ds_ret (de_own (dn_dictX C (T.free "dict" (by decide)) (das_cons (da_of (de_own (dn_lcS 2 C.calm nd (Blk.mkC (own := [("_law_powers_here", 5)]) C (show BlkOk ["_law_left", "_law_right", "_law_found", "_law_a", "_law_b", "_law_powers_here"] (defScope s__law_product) _ [("_law_powers_here", 5)] from ⟨rfl, by decide +kernel, by decide +kernel, by first | decide +kernel | (refine no_free ?_; decide +kernel), by first | decide +kernel | (refine no_free ?_; decide +kernel)⟩) (by decide) (fun s H Cb cl fp C => (dg_nm (i := 5) nd)) (fun s H Cb cl fp C => (dts_one (dt_cmp (op_neD (by have := C.room.un; omega)) s_ne (da_of (de_ixA C (da_var 2) (da_var 5))) (da_of de_int)))) (fun s H Cb cl fp C => (de_tup (das_cons (da_of (de_var 5)) (das_cons (da_of (de_ixA C (da_var 2) (da_var 5))) das_nil)) (arlen1 (arlen1 arlen0)))))))) das_nil))))))))
theorem sc_Curve_eq : FnScope ["self", "other"] ["self", "other"] (defScope s_Curve_eq) := ⟨rfl, rfl, rfl, by decide +kernel, rfl, by decide +kernel, by decide +kernel⟩
theorem ok_Curve_eq {f : Addr} {fd : FuncData} (T : Tp K mg)  (F : Fun K "__eq__" "Curve.__eq__" s_Curve_eq f fd) : FnOk P w K mg base (L2.CX P w) 1 f fd (["self", "other"] : List Str) (spD K mg (["self", "other"] : List Str).length d_Curve_eq) :=
  fn_D (k := 0) F sc_Curve_eq fun cdv A outer s H E C => by
    have nd := (sc_Curve_eq).nd
    unfold m_Curve_eq
    exact (dss_one (ds_ret (de_and (de_isiC ⟨T.isc_Curve⟩ (T.free "isinstance" (by decide)) (da_var 1)) (de_one (de_cmp (op_eqD (by have := C.room.un; omega)) s_eq (da_of (de_fld ⟨T.att_Curve_terms⟩ (da_var 0))) (da_of (de_fld ⟨T.att_Curve_terms⟩ (da_var 1))))))))
theorem sc_is_curve : FnScope ["thing"] ["thing"] (defScope s_is_curve) := ⟨rfl, rfl, rfl, by decide +kernel, rfl, by decide +kernel, by decide +kernel⟩
theorem ok_is_curve {f : Addr} {fd : FuncData} (T : Tp K mg)  (F : Fun K "is_curve" "is_curve" s_is_curve f fd) : FnOk P w K mg base (L2.CX P w) 1 f fd (["thing"] : List Str) (spD K mg (["thing"] : List Str).length d_is_curve) :=
  fn_D (k := 0) F sc_is_curve fun cdv A outer s H E C => by
    have nd := (sc_is_curve).nd
    unfold m_is_curve
    exact (dss_one (ds_ret (de_isiC ⟨T.isc_Curve⟩ (T.free "isinstance" (by decide)) (da_var 0))))
theorem sc_look_at_curve : FnScope ["thing"] ["thing"] (defScope s_look_at_curve) := ⟨rfl, rfl, rfl, by decide +kernel, rfl, by decide +kernel, by decide +kernel⟩
theorem ok_look_at_curve {f : Addr} {fd : FuncData} (T : Tp K mg) (D_is_curve : ∃ f fd, FnOk P w K mg base (L2.CX P w) 1 f fd (["thing"] : List Str) (spD K mg (["thing"] : List Str).length d_is_curve) ∧ mg "is_curve" = some (.ref f) ∧ PySem.W.keepIn K (.ref f) = true ∧ Binds K fd (["thing"] : List Str) []) (F : Fun K "look_at_curve" "look_at_curve" s_look_at_curve f fd) : FnOk P w K mg base (L2.CX P w) 2 f fd (["thing"] : List Str) (spD K mg (["thing"] : List Str).length d_look_at_curve) :=
  fn_D (k := 1) F sc_look_at_curve fun cdv A outer s H E C => by
    have nd := (sc_look_at_curve).nd
    unfold m_look_at_curve
    exact (dss_one (ds_if (dt_not (dt_val (de_fn C ⟨D_is_curve⟩ (by decide) (das_cons (da_var 0) das_nil) (arlen1 arlen0)))) (dss_one ds_bad) dss_nil))
theorem sc_Curve_table : FnScope ["self", "term"] ["self"] (defScope s_Curve_table) := ⟨rfl, rfl, rfl, by decide +kernel, rfl, by decide +kernel, by decide +kernel⟩
theorem ok_Curve_table {f : Addr} {fd : FuncData} (T : Tp K mg)  (F : Fun K "table" "Curve.table" s_Curve_table f fd) : FnOk P w K mg base (L2.CX P w) 1 f fd (["self"] : List Str) (spD K mg (["self"] : List Str).length d_Curve_table) :=
  fn_D (k := 0) F sc_Curve_table fun cdv A outer s H E C => by
    have nd := (sc_Curve_table).nd
    unfold m_Curve_table
    exact (dss_one (ds_ret (de_own (dn_dictX C (T.free "dict" (by decide)) (das_cons (da_of (de_own (dn_lc C.calm nd (di_vals (de_fld ⟨T.att_Curve_terms⟩ (da_var 0))) (Blk.mkC (own := [("term", 1)]) C (show BlkOk ["self", "term"] (defScope s_Curve_table) _ [("term", 1)] from ⟨rfl, by decide +kernel, by decide +kernel, by first | decide +kernel | (refine no_free ?_; decide +kernel), by first | decide +kernel | (refine no_free ?_; decide +kernel)⟩) (by decide) (fun s H Cb cl fp C => (dg_nm (i := 1) nd)) (fun s H Cb cl fp C => dts_nil) (fun s H Cb cl fp C => (de_tup (das_cons (da_of (de_sl (da_var 1) do_none (do_some de_int))) (das_cons (da_of (de_ixA C (da_var 1) (da_of de_int))) das_nil)) (arlen1 (arlen1 arlen0)))))))) das_nil)))))
theorem sc_added_to : FnScope ["table", "powers", "number"] ["table", "powers", "number"] (defScope s_added_to) := ⟨rfl, rfl, rfl, by decide +kernel, rfl, by decide +kernel, by decide +kernel⟩
theorem ok_added_to {f : Addr} {fd : FuncData} (T : Tp K mg)  (F : Fun K "added_to" "added_to" s_added_to f fd) : FnOk P w K mg base (L2.CX P w) 1 f fd (["table", "powers", "number"] : List Str) (spD K mg (["table", "powers", "number"] : List Str).length d_added_to) :=
  fn_D (k := 0) F sc_added_to fun cdv A outer s H E C => by
    have nd := (sc_added_to).nd
    unfold m_added_to
    exact (dss_one (ds_put 0 C (de_add (da_of (de_get2 C (da_var 0) (da_var 1) (da_of de_int))) (da_var 2)) (de_var 1)))
theorem sc_thinned : FnScope ["table", "powers"] ["table"] (defScope s_thinned) := ⟨rfl, rfl, rfl, by decide +kernel, rfl, by decide +kernel, by decide +kernel⟩
theorem ok_thinned {f : Addr} {fd : FuncData} (T : Tp K mg)  (F : Fun K "thinned" "thinned" s_thinned f fd) : FnOk P w K mg base (L2.CX P w) 1 f fd (["table"] : List Str) (spD K mg (["table"] : List Str).length d_thinned) :=
  fn_D (k := 0) F sc_thinned fun cdv A outer s H E C => by
    have nd := (sc_thinned).nd
    unfold m_thinned
    exact (dss_one (ds_ret (de_own (dn_dictX C (T.free "dict" (by decide)) (das_cons (da_of (de_own (dn_lcS 0 C.calm nd (Blk.mkC (own := [("powers", 1)]) C (show BlkOk ["table", "powers"] (defScope s_thinned) _ [("powers", 1)] from ⟨rfl, by decide +kernel, by decide +kernel, by first | decide +kernel | (refine no_free ?_; decide +kernel), by first | decide +kernel | (refine no_free ?_; decide +kernel)⟩) (by decide) (fun s H Cb cl fp C => (dg_nm (i := 1) nd)) (fun s H Cb cl fp C => (dts_one (dt_cmp (op_neD (by have := C.room.un; omega)) s_ne (da_of (de_ixA C (da_var 0) (da_var 1))) (da_of de_int)))) (fun s H Cb cl fp C => (de_tup (das_cons (da_of (de_var 1)) (das_cons (da_of (de_ixA C (da_var 0) (da_var 1))) das_nil)) (arlen1 (arlen1 arlen0)))))))) das_nil)))))
theorem sc_product : FnScope ["one", "other", "found", "left", "right", "powers", "k"] ["one", "other"] (defScope s_product) := ⟨rfl, rfl, rfl, by decide +kernel, rfl, by decide +kernel, by decide +kernel⟩
theorem ok_product {f : Addr} {fd : FuncData} (T : Tp K mg) (D_added_to : ∃ f fd, FnOk P w K mg base (L2.CX P w) 1 f fd (["table", "powers", "number"] : List Str) (spD K mg (["table", "powers", "number"] : List Str).length d_added_to) ∧ mg "added_to" = some (.ref f) ∧ PySem.W.keepIn K (.ref f) = true ∧ Binds K fd (["table", "powers", "number"] : List Str) []) (D_thinned : ∃ f fd, FnOk P w K mg base (L2.CX P w) 1 f fd (["table"] : List Str) (spD K mg (["table"] : List Str).length d_thinned) ∧ mg "thinned" = some (.ref f) ∧ PySem.W.keepIn K (.ref f) = true ∧ Binds K fd (["table"] : List Str) []) (F : Fun K "product" "product" s_product f fd) : FnOk P w K mg base (L2.CX P w) 2 f fd (["one", "other"] : List Str) (spD K mg (["one", "other"] : List Str).length d_product) :=
  fn_D (k := 1) F sc_product fun cdv A outer s H E C => by
    have nd := (sc_product).nd
    unfold m_product
    exact (dss_cons (ds_setO (i := 2) nd dn_emptyT) (dss_cons (ds_forS 0 C (dg_nm (i := 3) nd) (dss_one (ds_forS 1 C (dg_nm (i := 4) nd) (dss_cons (ds_set (i := 5) nd (de_tupC (T.free "tuple" (by decide)) (das_cons (da_of (de_own (dn_lc C.calm nd (di_range1 (T.free "range" (by decide)) (de_len (T.free "len" (by decide)) (das_cons (da_var 3) das_nil))) (Blk.mkC (own := [("k", 6)]) C (show BlkOk ["one", "other", "found", "left", "right", "powers", "k"] (defScope s_product) _ [("k", 6)] from ⟨rfl, by decide +kernel, by decide +kernel, by first | decide +kernel | (refine no_free ?_; decide +kernel), by first | decide +kernel | (refine no_free ?_; decide +kernel)⟩) (by decide) (fun s H Cb cl fp C => (dg_nm (i := 6) nd)) (fun s H Cb cl fp C => dts_nil) (fun s H Cb cl fp C => (de_add (da_of (de_ixA C (da_var 3) (da_var 6))) (da_of (de_ixA C (da_var 4) (da_var 6))))))))) das_nil))) (dss_one (ds_expr (de_fn C ⟨D_added_to⟩ (by decide) (das_cons (da_var 2) (das_cons (da_var 5) (das_cons (da_of (de_mul (da_of (de_ixA C (da_var 0) (da_var 3))) (da_of (de_ixA C (da_var 1) (da_var 4))))) das_nil))) (arlen1 (arlen1 (arlen1 arlen0)))))))))) (dss_one (ds_ret (de_fn C ⟨D_thinned⟩ (by decide) (das_cons (da_of (de_var 2)) das_nil) (arlen1 arlen0))))))
theorem sc_summed : FnScope ["one", "other", "times", "found", "powers"] ["one", "other", "times"] (defScope s_summed) := ⟨rfl, rfl, rfl, by decide +kernel, rfl, by decide +kernel, by decide +kernel⟩
theorem ok_summed {f : Addr} {fd : FuncData} (T : Tp K mg) (D_added_to : ∃ f fd, FnOk P w K mg base (L2.CX P w) 1 f fd (["table", "powers", "number"] : List Str) (spD K mg (["table", "powers", "number"] : List Str).length d_added_to) ∧ mg "added_to" = some (.ref f) ∧ PySem.W.keepIn K (.ref f) = true ∧ Binds K fd (["table", "powers", "number"] : List Str) []) (D_thinned : ∃ f fd, FnOk P w K mg base (L2.CX P w) 1 f fd (["table"] : List Str) (spD K mg (["table"] : List Str).length d_thinned) ∧ mg "thinned" = some (.ref f) ∧ PySem.W.keepIn K (.ref f) = true ∧ Binds K fd (["table"] : List Str) []) (F : Fun K "summed" "summed" s_summed f fd) : FnOk P w K mg base (L2.CX P w) 2 f fd (["one", "other", "times"] : List Str) (spD K mg (["one", "other", "times"] : List Str).length d_summed) :=
  fn_D (k := 1) F sc_summed fun cdv A outer s H E C => by
    have nd := (sc_summed).nd
    unfold m_summed
    exact (dss_cons (ds_setO (i := 3) nd (dn_dictX C (T.free "dict" (by decide)) (das_cons (da_var 0) das_nil))) (dss_cons (ds_forS 1 C (dg_nm (i := 4) nd) (dss_one (ds_expr (de_fn C ⟨D_added_to⟩ (by decide) (das_cons (da_var 3) (das_cons (da_var 4) (das_cons (da_of (de_mul (da_var 2) (da_of (de_ixA C (da_var 1) (da_var 4))))) das_nil))) (arlen1 (arlen1 (arlen1 arlen0))))))) (dss_one (ds_ret (de_fn C ⟨D_thinned⟩ (by decide) (das_cons (da_of (de_var 3)) das_nil) (arlen1 arlen0))))))
theorem sc_divided : FnScope ["table", "by", "lead", "found", "rest", "first", "powers", "number", "k"] ["table", "by"] (defScope s_divided) := ⟨rfl, rfl, rfl, by decide +kernel, rfl, by decide +kernel, by decide +kernel⟩
theorem ok_divided {f : Addr} {fd : FuncData} (T : Tp K mg) (D_product : ∃ f fd, FnOk P w K mg base (L2.CX P w) 2 f fd (["one", "other"] : List Str) (spD K mg (["one", "other"] : List Str).length d_product) ∧ mg "product" = some (.ref f) ∧ PySem.W.keepIn K (.ref f) = true ∧ Binds K fd (["one", "other"] : List Str) []) (D_summed : ∃ f fd, FnOk P w K mg base (L2.CX P w) 2 f fd (["one", "other", "times"] : List Str) (spD K mg (["one", "other", "times"] : List Str).length d_summed) ∧ mg "summed" = some (.ref f) ∧ PySem.W.keepIn K (.ref f) = true ∧ Binds K fd (["one", "other", "times"] : List Str) []) (F : Fun K "divided" "divided" s_divided f fd) : FnOk P w K mg base (L2.CX P w) 3 f fd (["table", "by"] : List Str) (spD K mg (["table", "by"] : List Str).length d_divided) :=
  fn_D (k := 2) F sc_divided fun cdv A outer s H E C => by
    have nd := (sc_divided).nd
    unfold m_divided
    exact (dss_cons (ds_set (i := 2) nd (de_maxX C (T.free "max" (by decide)) (das_cons (da_var 1) das_nil))) (dss_cons (ds_setO (i := 3) nd dn_emptyT) (dss_cons (ds_setO (i := 4) nd (dn_dictX C (T.free "dict" (by decide)) (das_cons (da_var 0) das_nil))) (dss_cons (ds_while C (dt_cmp op_gt s_gt (da_of (de_len (T.free "len" (by decide)) (das_cons (da_var 4) das_nil))) (da_of de_int)) (dss_cons (ds_set (i := 5) nd (de_maxX C (T.free "max" (by decide)) (das_cons (da_var 4) das_nil))) (dss_cons (ds_set (i := 6) nd (de_tupC (T.free "tuple" (by decide)) (das_cons (da_of (de_own (dn_lc C.calm nd (di_range1 (T.free "range" (by decide)) (de_len (T.free "len" (by decide)) (das_cons (da_var 2) das_nil))) (Blk.mkC (own := [("k", 8)]) C (show BlkOk ["table", "by", "lead", "found", "rest", "first", "powers", "number", "k"] (defScope s_divided) _ [("k", 8)] from ⟨rfl, by decide +kernel, by decide +kernel, by first | decide +kernel | (refine no_free ?_; decide +kernel), by first | decide +kernel | (refine no_free ?_; decide +kernel)⟩) (by decide) (fun s H Cb cl fp C => (dg_nm (i := 8) nd)) (fun s H Cb cl fp C => dts_nil) (fun s H Cb cl fp C => (de_sub (da_of (de_ixA C (da_var 5) (da_var 8))) (da_of (de_ixA C (da_var 2) (da_var 8))))))))) das_nil))) (dss_cons (ds_if (dt_bool (dw_or (dt_cmp op_lt s_lt (da_of (de_min C (T.free "min" (by decide)) (das_cons (da_var 6) das_nil))) (da_of de_int)) (dw_or1 (dt_cmp (op_neD (by have := C.room.un; omega)) s_ne (da_of (de_mod (da_of (de_ixA C (da_var 4) (da_var 5))) (da_of (de_ixA C (da_var 1) (da_var 2))))) (da_of de_int))))) (dss_one (ds_ret de_non)) dss_nil) (dss_cons (ds_set (i := 7) nd (de_div (da_of (de_ixA C (da_var 4) (da_var 5))) (da_of (de_ixA C (da_var 1) (da_var 2))))) (dss_cons (ds_put 3 C (de_var 7) (de_var 6)) (dss_one (ds_set (i := 4) nd (de_fn C ⟨D_summed⟩ (by decide) (das_cons (da_of (de_var 4)) (das_cons (da_of (de_fn C ⟨D_product⟩ (by decide) (das_cons (da_of (de_own (dn_dispT C (dps_cons (de_var 6) (de_var 7) dps_nil)))) (das_cons (da_var 1) das_nil)) (arlen1 (arlen1 arlen0)))) (das_cons (da_of (de_neg (da_of de_int))) das_nil))) (arlen1 (arlen1 (arlen1 arlen0)))))))))))) (dss_one (ds_ret (de_var 3)))))))
theorem sc_curve_of : FnScope ["table", "powers"] ["table"] (defScope s_curve_of) := ⟨rfl, rfl, rfl, by decide +kernel, rfl, by decide +kernel, by decide +kernel⟩
theorem ok_curve_of {f : Addr} {fd : FuncData} (T : Tp K mg) (D_Curve_init : ∃ C f fd, mg "Curve" = some (.ref C) ∧ Mk K C f ∧ FnOk P w K mg base (L2.CX P w) 4 f fd (["self", "terms"] : List Str) (spD K mg (["self", "terms"] : List Str).length d_Curve_init) ∧ Binds K fd (["self", "terms"] : List Str) []) (F : Fun K "curve_of" "curve_of" s_curve_of f fd) : FnOk P w K mg base (L2.CX P w) 6 f fd (["table"] : List Str) (spD K mg (["table"] : List Str).length d_curve_of) :=
  fn_D (k := 5) F sc_curve_of fun cdv A outer s H E C => by
    have nd := (sc_curve_of).nd
    unfold m_curve_of
    exact (dss_one (ds_ret (de_own (dn_make C ⟨D_Curve_init⟩ (by decide) (das_cons (da_of (de_own (dn_lcS 0 C.calm nd (Blk.mkC (own := [("powers", 1)]) C (show BlkOk ["table", "powers"] (defScope s_curve_of) _ [("powers", 1)] from ⟨rfl, by decide +kernel, by decide +kernel, by first | decide +kernel | (refine no_free ?_; decide +kernel), by first | decide +kernel | (refine no_free ?_; decide +kernel)⟩) (by decide) (fun s H Cb cl fp C => (dg_nm (i := 1) nd)) (fun s H Cb cl fp C => dts_nil) (fun s H Cb cl fp C => (de_add (da_var 1) (da_of (de_tup (das_cons (da_of (de_ixA C (da_var 0) (da_var 1))) das_nil) (arlen1 arlen0))))))))) das_nil) (fun s as s' h => by rw [(arlen1 arlen0) s as s' h]; rfl)))))
theorem sc_Curve_over : FnScope ["self", "other", "found"] ["self", "other"] (defScope s_Curve_over) := ⟨rfl, rfl, rfl, by decide +kernel, rfl, by decide +kernel, by decide +kernel⟩
theorem ok_Curve_over {f : Addr} {fd : FuncData} (T : Tp K mg) (D_look_at_curve : ∃ f fd, FnOk P w K mg base (L2.CX P w) 2 f fd (["thing"] : List Str) (spD K mg (["thing"] : List Str).length d_look_at_curve) ∧ mg "look_at_curve" = some (.ref f) ∧ PySem.W.keepIn K (.ref f) = true ∧ Binds K fd (["thing"] : List Str) []) (D_Curve_table : ∃ C f fd, mg "Curve" = some (.ref C) ∧ Cls K C ∧ Meth K C "table" f ∧ FnOk P w K mg base (L2.CX P w) 1 f fd (["self"] : List Str) (spD K mg (["self"] : List Str).length d_Curve_table) ∧ Binds K fd (["self"] : List Str) []) (D_divided : ∃ f fd, FnOk P w K mg base (L2.CX P w) 3 f fd (["table", "by"] : List Str) (spD K mg (["table", "by"] : List Str).length d_divided) ∧ mg "divided" = some (.ref f) ∧ PySem.W.keepIn K (.ref f) = true ∧ Binds K fd (["table", "by"] : List Str) []) (D_curve_of : ∃ f fd, FnOk P w K mg base (L2.CX P w) 6 f fd (["table"] : List Str) (spD K mg (["table"] : List Str).length d_curve_of) ∧ mg "curve_of" = some (.ref f) ∧ PySem.W.keepIn K (.ref f) = true ∧ Binds K fd (["table"] : List Str) []) (F : Fun K "over" "Curve.over" s_Curve_over f fd) : FnOk P w K mg base (L2.CX P w) 7 f fd (["self", "other"] : List Str) (spD K mg (["self", "other"] : List Str).length d_Curve_over) :=
  fn_D (k := 6) F sc_Curve_over fun cdv A outer s H E C => by
    have nd := (sc_Curve_over).nd
    unfold m_Curve_over
    exact (dss_cons (ds_expr (de_fn C ⟨D_look_at_curve⟩ (by decide) (das_cons (da_var 1) das_nil) (arlen1 arlen0))) (dss_cons (ds_if (dt_cmp op_ge s_ge (da_of (de_fld ⟨T.att_Curve_degree⟩ (da_var 1))) (da_of (de_fld ⟨T.att_Curve_degree⟩ (da_var 0)))) (dss_one (ds_ret de_non)) dss_nil) (dss_cons (ds_set (i := 2) nd (de_fn C ⟨D_divided⟩ (by decide) (das_cons (da_of (de_meth0 C ⟨D_Curve_table⟩ (by decide) (da_var 0) rfl)) (das_cons (da_of (de_meth0 C ⟨D_Curve_table⟩ (by decide) (da_var 1) rfl)) das_nil)) (arlen1 (arlen1 arlen0)))) (dss_cons (ds_if (dt_cmp op_isA s_is (da_var 2) (da_of de_non)) (dss_one (ds_ret de_non)) dss_nil) (dss_one (ds_ret (de_fn C ⟨D_curve_of⟩ (by decide) (das_cons (da_var 2) das_nil) (arlen1 arlen0))))))))
theorem sc_Curve_repr : FnScope ["self"] ["self"] (defScope s_Curve_repr) := ⟨rfl, rfl, rfl, by decide +kernel, rfl, by decide +kernel, by decide +kernel⟩
theorem ok_Curve_repr {f : Addr} {fd : FuncData} (T : Tp K mg)  (F : Fun K "__repr__" "Curve.__repr__" s_Curve_repr f fd) : FnG G0 P w K mg base (L2.CX P w) 1 f fd (["self"] : List Str) (spD K mg (["self"] : List Str).length d_Curve_repr) :=
  fn_DG (k := 0) F sc_Curve_repr fun cdv A outer s H E gd C => by
    have nd := (sc_Curve_repr).nd
    unfold m_Curve_repr
    exact (dss_one (ds_ret (de_j3 (de_rp C gd (de_fld ⟨T.att_Curve_terms⟩ (da_var 0))))))
theorem sc__law_table : FnScope ["_law_curve", "_law_term"] ["_law_curve"] (defScope s__law_table) := ⟨rfl, rfl, rfl, by decide +kernel, rfl, by decide +kernel, by decide +kernel⟩
theorem ok__law_table {f : Addr} {fd : FuncData} (T : Tp K mg)  (F : Fun K "_law_table" "_law_table" s__law_table f fd) : FnOk P w K mg base (L2.CX P w) 1 f fd (["_law_curve"] : List Str) (spD K mg (["_law_curve"] : List Str).length d__law_table) :=
  fn_D (k := 0) F sc__law_table fun cdv A outer s H E C => by
    have nd := (sc__law_table).nd
    unfold m__law_table
    exact (dss_one (ds_ret (de_own (dn_dictX C (T.free "dict" (by decide)) (das_cons (da_of (de_own (dn_lc C.calm nd (di_vals (de_fld ⟨T.att_Curve_terms⟩ (da_var 0))) (Blk.mkC (own := [("_law_term", 1)]) C (show BlkOk ["_law_curve", "_law_term"] (defScope s__law_table) _ [("_law_term", 1)] from ⟨rfl, by decide +kernel, by decide +kernel, by first | decide +kernel | (refine no_free ?_; decide +kernel), by first | decide +kernel | (refine no_free ?_; decide +kernel)⟩) (by decide) (fun s H Cb cl fp C => (dg_nm (i := 1) nd)) (fun s H Cb cl fp C => dts_nil) (fun s H Cb cl fp C => (de_tup (das_cons (da_of (de_sl (da_var 1) do_none (do_some de_int))) (das_cons (da_of (de_ixA C (da_var 1) (da_of de_int))) das_nil)) (arlen1 (arlen1 arlen0)))))))) das_nil)))))
theorem sc__law_due : FnScope ["_law_form_here", "_law_by", "_law_lead", "_law_rest", "_law_found", "_law_top", "_law_powers_here", "_law_key", "_law_spot"] ["_law_form_here", "_law_by"] (defScope s__law_due) := ⟨rfl, rfl, rfl, by decide +kernel, rfl, by decide +kernel, by decide +kernel⟩
theorem ok__law_due {f : Addr} {fd : FuncData} (T : Tp K mg)  (F : Fun K "_law_due" "_law_due" s__law_due f fd) : FnOk P w K mg base (L2.CX P w) 1 f fd (["_law_form_here", "_law_by"] : List Str) (spD K mg (["_law_form_here", "_law_by"] : List Str).length d__law_due) :=
  fn_D (k := 0) F sc__law_due fun cdv A outer s H E C => by
    have nd := (sc__law_due).nd
    unfold m__law_due
    exact (dss_cons (ds_if (dt_cmp op_ge s_ge (da_of (de_sum C (T.free "sum" (by decide)) (das_cons (da_of (de_maxX C (T.free "max" (by decide)) (das_cons (da_var 1) das_nil))) das_nil))) (da_of (de_sum C (T.free "sum" (by decide)) (das_cons (da_of (de_maxX C (T.free "max" (by decide)) (das_cons (da_var 0) das_nil))) das_nil)))) (dss_one (ds_ret de_non)) dss_nil) (dss_cons (ds_set (i := 2) nd (de_maxX C (T.free "max" (by decide)) (das_cons (da_var 1) das_nil))) (dss_cons (ds_setO (i := 3) nd (dn_dictX C (T.free "dict" (by decide)) (das_cons (da_var 0) das_nil))) (dss_cons (ds_setO (i := 4) nd dn_emptyT) (dss_cons (ds_while C (dt_neE C (da_var 3)) (dss_cons (ds_set (i := 5) nd (de_maxX C (T.free "max" (by decide)) (das_cons (da_var 3) das_nil))) (dss_cons (ds_set (i := 6) nd (de_tup (das_cons (da_of (de_sub (da_of (de_ixA C (da_var 5) (da_of de_int))) (da_of (de_ixA C (da_var 2) (da_of de_int))))) (das_cons (da_of (de_sub (da_of (de_ixA C (da_var 5) (da_of de_int))) (da_of (de_ixA C (da_var 2) (da_of de_int))))) (das_cons (da_of (de_sub (da_of (de_ixA C (da_var 5) (da_of de_int))) (da_of (de_ixA C (da_var 2) (da_of de_int))))) das_nil))) (arlen1 (arlen1 (arlen1 arlen0))))) (dss_cons (ds_if (dt_bool (dw_or (dt_cmp op_lt s_lt (da_of (de_min C (T.free "min" (by decide)) (das_cons (da_var 6) das_nil))) (da_of de_int)) (dw_or1 (dt_cmp (op_neD (by have := C.room.un; omega)) s_ne (da_of (de_mod (da_of (de_ixA C (da_var 3) (da_var 5))) (da_of (de_ixA C (da_var 1) (da_var 2))))) (da_of de_int))))) (dss_one (ds_ret de_non)) dss_nil) (dss_cons (ds_put 4 C (de_div (da_of (de_ixA C (da_var 3) (da_var 5))) (da_of (de_ixA C (da_var 1) (da_var 2)))) (de_var 6)) (dss_cons (ds_forS 1 C (dg_nm (i := 7) nd) (dss_cons (ds_set (i := 8) nd (de_tup (das_cons (da_of (de_add (da_of (de_ixA C (da_var 7) (da_of de_int))) (da_of (de_ixA C (da_var 6) (da_of de_int))))) (das_cons (da_of (de_add (da_of (de_ixA C (da_var 7) (da_of de_int))) (da_of (de_ixA C (da_var 6) (da_of de_int))))) (das_cons (da_of (de_add (da_of (de_ixA C (da_var 7) (da_of de_int))) (da_of (de_ixA C (da_var 6) (da_of de_int))))) das_nil))) (arlen1 (arlen1 (arlen1 arlen0))))) (dss_one (ds_put 3 C (de_sub (da_of (de_get2 C (da_var 3) (da_var 8) (da_of de_int))) (da_of (de_mul (da_of (de_ixA C (da_var 4) (da_var 6))) (da_of (de_ixA C (da_var 1) (da_var 7)))))) (de_var 8))))) (dss_one (ds_frz 3 (ds_setO (i := 3) nd (dn_dictX C (T.free "dict" (by decide)) (das_cons (da_of (de_own (dn_lcS 3 C.calm nd (Blk.mkC (own := [("_law_key", 7)]) C (show BlkOk ["_law_form_here", "_law_by", "_law_lead", "_law_rest", "_law_found", "_law_top", "_law_powers_here", "_law_key", "_law_spot"] (defScope s__law_due) _ [("_law_key", 7)] from ⟨rfl, by decide +kernel, by decide +kernel, by first | decide +kernel | (refine no_free ?_; decide +kernel), by first | decide +kernel | (refine no_free ?_; decide +kernel)⟩) (by decide) (fun s H Cb cl fp C => (dg_nm (i := 7) nd)) (fun s H Cb cl fp C => (dts_one (dt_cmp (op_neD (by have := C.room.un; omega)) s_ne (da_of (de_ixA C (da_var 3) (da_var 7))) (da_of de_int)))) (fun s H Cb cl fp C => (de_tup (das_cons (da_of (de_var 7)) (das_cons (da_of (de_ixA C (da_var 3) (da_var 7))) das_nil)) (arlen1 (arlen1 arlen0)))))))) das_nil))))))))))) (dss_one (ds_ret (de_var 4))))))))
theorem sc__law_common : FnScope ["_law_left", "_law_right"] ["_law_left", "_law_right"] (defScope s__law_common) := ⟨rfl, rfl, rfl, by decide +kernel, rfl, by decide +kernel, by decide +kernel⟩
theorem ok__law_common {f : Addr} {fd : FuncData} (T : Tp K mg)  (F : Fun K "_law_common" "_law_common" s__law_common f fd) : FnOk P w K mg base (L2.CX P w) 1 f fd (["_law_left", "_law_right"] : List Str) (spD K mg (["_law_left", "_law_right"] : List Str).length d__law_common) :=
  fn_D (k := 0) F sc__law_common fun cdv A outer s H E C => by
    have nd := (sc__law_common).nd
    unfold m__law_common
    exact (dss_cons (ds_set (i := 0) nd (de_abs (T.free "abs" (by decide)) (das_cons (da_var 0) das_nil))) (dss_cons (ds_set (i := 1) nd (de_abs (T.free "abs" (by decide)) (das_cons (da_var 1) das_nil))) (dss_cons (ds_while C (dt_cmp op_gt s_gt (da_var 1) (da_of de_int)) (dss_one (ds_par (i := 0) (j := 1) C.calm nd (das_cons (da_of (de_var 1)) (das_cons (da_of (de_mod (da_var 0) (da_var 1))) das_nil))))) (dss_one (ds_ret (de_var 0))))))
theorem sc__law_kept : FnScope ["_law_form_here", "_law_share", "_law_powers_here", "_law_told"] ["_law_form_here"] (defScope s__law_kept) := ⟨rfl, rfl, rfl, by decide +kernel, rfl, by decide +kernel, by decide +kernel⟩
theorem ok__law_kept {f : Addr} {fd : FuncData} (T : Tp K mg) (D__law_common : ∃ f fd, FnOk P w K mg base (L2.CX P w) 1 f fd (["_law_left", "_law_right"] : List Str) (spD K mg (["_law_left", "_law_right"] : List Str).length d__law_common) ∧ mg "_law_common" = some (.ref f) ∧ PySem.W.keepIn K (.ref f) = true ∧ Binds K fd (["_law_left", "_law_right"] : List Str) []) (F : Fun K "_law_kept" "_law_kept" s__law_kept f fd) : FnOk P w K mg base (L2.CX P w) 2 f fd (["_law_form_here"] : List Str) (spD K mg (["_law_form_here"] : List Str).length d__law_kept) :=
  fn_D (k := 1) F sc__law_kept fun cdv A outer s H E C => by
    have nd := (sc__law_kept).nd
    unfold m__law_kept
    exact (dss_cons (ds_set (i := 1) nd de_int) (dss_cons (ds_forS 0 C (dg_nm (i := 2) nd) (dss_one (ds_set (i := 1) nd (de_fn C ⟨D__law_common⟩ (by decide) (das_cons (da_var 1) (das_cons (da_of (de_ixA C (da_var 0) (da_var 2))) das_nil)) (arlen1 (arlen1 arlen0)))))) (dss_cons (ds_set (i := 3) nd (de_rev (da_of (de_own (dn_sort C (T.free "sorted" (by decide)) (das_cons (da_var 0) das_nil)))))) (dss_cons (ds_if (dt_cmp op_lt s_lt (da_of (de_ixA C (da_var 0) (da_of (de_ixA C (da_var 3) (da_of de_int))))) (da_of de_int)) (dss_one (ds_set (i := 1) nd (de_sub (da_of de_int) (da_var 1)))) dss_nil) (dss_one (ds_ret (de_tupC (T.free "tuple" (by decide)) (das_cons (da_of (de_own (dn_lcS 3 C.calm nd (Blk.mkC (own := [("_law_powers_here", 2)]) C (show BlkOk ["_law_form_here", "_law_share", "_law_powers_here", "_law_told"] (defScope s__law_kept) _ [("_law_powers_here", 2)] from ⟨rfl, by decide +kernel, by decide +kernel, by first | decide +kernel | (refine no_free ?_; decide +kernel), by first | decide +kernel | (refine no_free ?_; decide +kernel)⟩) (by decide) (fun s H Cb cl fp C => (dg_nm (i := 2) nd)) (fun s H Cb cl fp C => dts_nil) (fun s H Cb cl fp C => (de_add (da_var 2) (da_of (de_tup (das_cons (da_of (de_div (da_of (de_ixA C (da_var 0) (da_var 2))) (da_var 1))) das_nil) (arlen1 arlen0))))))))) das_nil))))))))
theorem sc__law_good : FnScope ["_law_one", "_law_two", "_law_kept_here", "_law_due_here", "_law_found"] ["_law_one", "_law_two"] (defScope s__law_good) := ⟨rfl, rfl, rfl, by decide +kernel, rfl, by decide +kernel, by decide +kernel⟩
theorem ok__law_good {f : Addr} {fd : FuncData} (T : Tp K mg) (DR_Curve_repr : ∃ C f fd ps, mg "Curve" = some (.ref C) ∧ PySem.W.findIn K (.ref C) "__repr__" = some (some (.ref f)) ∧ PySem.W.isFn K (.ref f) = true ∧ ps.length = 1 ∧ FnG G0 P w K mg base (L2.CX P w) 1 f fd ps (spD K mg ps.length d_Curve_repr) ∧ Binds K fd ps []) (D__law_table : ∃ f fd, FnOk P w K mg base (L2.CX P w) 1 f fd (["_law_curve"] : List Str) (spD K mg (["_law_curve"] : List Str).length d__law_table) ∧ mg "_law_table" = some (.ref f) ∧ PySem.W.keepIn K (.ref f) = true ∧ Binds K fd (["_law_curve"] : List Str) []) (D__law_due : ∃ f fd, FnOk P w K mg base (L2.CX P w) 1 f fd (["_law_form_here", "_law_by"] : List Str) (spD K mg (["_law_form_here", "_law_by"] : List Str).length d__law_due) ∧ mg "_law_due" = some (.ref f) ∧ PySem.W.keepIn K (.ref f) = true ∧ Binds K fd (["_law_form_here", "_law_by"] : List Str) []) (D__law_kept : ∃ f fd, FnOk P w K mg base (L2.CX P w) 2 f fd (["_law_form_here"] : List Str) (spD K mg (["_law_form_here"] : List Str).length d__law_kept) ∧ mg "_law_kept" = some (.ref f) ∧ PySem.W.keepIn K (.ref f) = true ∧ Binds K fd (["_law_form_here"] : List Str) []) (D_Curve_over : ∃ C f fd, mg "Curve" = some (.ref C) ∧ Cls K C ∧ Meth K C "over" f ∧ FnOk P w K mg base (L2.CX P w) 7 f fd (["self", "other"] : List Str) (spD K mg (["self", "other"] : List Str).length d_Curve_over) ∧ Binds K fd (["self", "other"] : List Str) []) (DK_Curve_over_other : ∃ C f fd, mg "Curve" = some (.ref C) ∧ Cls K C ∧ Meth K C "over" f ∧ FnOk P w K mg base (L2.CX P w) 7 f fd (["self", "other"] : List Str) (spD K mg (["self", "other"] : List Str).length d_Curve_over) ∧ KwB K fd (["self", "other"] : List Str) 1 (["other"] : List Str) [0, 1]) (F : Fun K "_law_good" "_law_good" s__law_good f fd) : FnG N0 P w K mg base (L2.CX P w) 8 f fd (["_law_one", "_law_two"] : List Str) (spD K mg (["_law_one", "_law_two"] : List Str).length d__law_good) :=
  fn_DG (k := 7) F sc__law_good fun cdv A outer s H E gd C => by
    have nd := (sc__law_good).nd
    unfold m__law_good
    exact (dss_cons (ds_set (i := 2) nd (de_repL C gd ⟨DR_Curve_repr⟩ (by decide) (T.free "repr" (by decide)) (da_of (de_own (dn_lst (das_cons (da_of (de_var 0)) (das_cons (da_of (de_var 1)) das_nil)) (arlen1 (arlen1 arlen0))))))) (dss_cons (ds_set (i := 3) nd (de_fn C ⟨D__law_due⟩ (by decide) (das_cons (da_of (de_fn C ⟨D__law_table⟩ (by decide) (das_cons (da_var 0) das_nil) (arlen1 arlen0))) (das_cons (da_of (de_fn C ⟨D__law_table⟩ (by decide) (das_cons (da_var 1) das_nil) (arlen1 arlen0))) das_nil)) (arlen1 (arlen1 arlen0)))) (dss_cons (ds_for C (di_vals (de_own (dn_lst (das_cons (da_of (de_meth C ⟨D_Curve_over⟩ (by decide) (da_var 0) (das_cons (da_var 1) das_nil) (fun s as s' h => by rw [(arlen1 arlen0) s as s' h]; rfl))) (das_cons (da_of (de_methK0 C ⟨DK_Curve_over_other⟩ (by decide) (da_var 0) (dks_cons (da_var 1) dks_nil) (arlen1 arlen0))) das_nil)) (arlen1 (arlen1 arlen0))))) (dg_nm (i := 4) nd) (dss_cons (ds_if (dt_bool (dw_and (dt_cmp op_isA s_is (da_var 3) (da_of de_non)) (dw_and1 (dt_cmp op_isNotA s_isNot (da_var 4) (da_of de_non))))) (dss_one (ds_ret de_bl)) dss_nil) (dss_one (ds_if (dt_bool (dw_and (dt_cmp op_isNotA s_isNot (da_var 3) (da_of de_non)) (dw_and1 (dt_bool (dw_or (dt_not (dt_val (de_isiC ⟨T.isc_Curve⟩ (T.free "isinstance" (by decide)) (da_var 4)))) (dw_or1 (dt_cmp (op_neD (by have := C.room.un; omega)) s_ne (da_of (de_fld ⟨T.att_Curve_terms⟩ (da_var 4))) (da_of (de_fn C ⟨D__law_kept⟩ (by decide) (das_cons (da_var 3) das_nil) (arlen1 arlen0)))))))))) (dss_one (ds_ret de_bl)) dss_nil)))) (dss_one (ds_ret (de_cmp (op_eqD (by have := C.room.un; omega)) s_eq (da_of (de_repL C gd ⟨DR_Curve_repr⟩ (by decide) (T.free "repr" (by decide)) (da_of (de_own (dn_lst (das_cons (da_of (de_var 0)) (das_cons (da_of (de_var 1)) das_nil)) (arlen1 (arlen1 arlen0))))))) (da_var 2)))))))
theorem sc_law : FnScope ["_law_script", "_law_k", "_law_pile", "_law_sizes", "_law_left", "_law_right", "_law_a", "_law_b", "_law_long", "_law_both", "_law_powers_here", "_law_bent", "_law_some", "_law_one", "_law_size", "_law_two"] ["_law_script"] (defScope s_law) := ⟨rfl, rfl, rfl, by decide +kernel, rfl, by decide +kernel, by decide +kernel⟩
theorem ok_law {f : Addr} {fd : FuncData} (T : Tp K mg) (D__law_cell : ∃ f fd, FnOk P w K mg base (L2.CX P w) 2 f fd (["_law_script", "_law_k"] : List Str) (spD K mg (["_law_script", "_law_k"] : List Str).length d__law_cell) ∧ mg "_law_cell" = some (.ref f) ∧ PySem.W.keepIn K (.ref f) = true ∧ Binds K fd (["_law_script", "_law_k"] : List Str) []) (D__law_take : ∃ f fd, FnOk P w K mg base (L2.CX P w) 1 f fd (["_law_pile", "_law_size"] : List Str) (spD K mg (["_law_pile", "_law_size"] : List Str).length d__law_take) ∧ mg "_law_take" = some (.ref f) ∧ PySem.W.keepIn K (.ref f) = true ∧ Binds K fd (["_law_pile", "_law_size"] : List Str) []) (D__law_form : ∃ f fd, FnOk P w K mg base (L2.CX P w) 2 f fd (["_law_pile", "_law_size", "_law_most"] : List Str) (spD K mg (["_law_pile", "_law_size", "_law_most"] : List Str).length d__law_form) ∧ mg "_law_form" = some (.ref f) ∧ PySem.W.keepIn K (.ref f) = true ∧ Binds K fd (["_law_pile", "_law_size", "_law_most"] : List Str) []) (D__law_made : ∃ f fd, FnOk P w K mg base (L2.CX P w) 6 f fd (["_law_form_here"] : List Str) (spD K mg (["_law_form_here"] : List Str).length d__law_made) ∧ mg "_law_made" = some (.ref f) ∧ PySem.W.keepIn K (.ref f) = true ∧ Binds K fd (["_law_form_here"] : List Str) []) (D__law_product : ∃ f fd, FnOk P w K mg base (L2.CX P w) 1 f fd (["_law_left", "_law_right"] : List Str) (spD K mg (["_law_left", "_law_right"] : List Str).length d__law_product) ∧ mg "_law_product" = some (.ref f) ∧ PySem.W.keepIn K (.ref f) = true ∧ Binds K fd (["_law_left", "_law_right"] : List Str) []) (DN_Curve_eq : ∃ C f fd ps, mg "Curve" = some (.ref C) ∧ PySem.W.findIn K (.ref C) "__eq__" = some (some (.ref f)) ∧ PySem.W.isFn K (.ref f) = true ∧ ps.length = 2 ∧ FnOk P w K mg base (L2.CX P w) 1 f fd ps (spD K mg ps.length d_Curve_eq) ∧ Binds K fd ps [] ∧ PySem.W.findIn K (.ref C) "__ne__" = some (some (.builtin "object.__ne__")) ∧ PySem.W.subIn K (.ref C) (.type "object") = some true) (D_Curve_over : ∃ C f fd, mg "Curve" = some (.ref C) ∧ Cls K C ∧ Meth K C "over" f ∧ FnOk P w K mg base (L2.CX P w) 7 f fd (["self", "other"] : List Str) (spD K mg (["self", "other"] : List Str).length d_Curve_over) ∧ Binds K fd (["self", "other"] : List Str) []) (D__law_good : ∃ f fd, FnG N0 P w K mg base (L2.CX P w) 8 f fd (["_law_one", "_law_two"] : List Str) (spD K mg (["_law_one", "_law_two"] : List Str).length d__law_good) ∧ mg "_law_good" = some (.ref f) ∧ PySem.W.keepIn K (.ref f) = true ∧ Binds K fd (["_law_one", "_law_two"] : List Str) []) (F : Fun K "law" "law" s_law f fd) : FnG N0 P w K mg base (L2.CX P w) 9 f fd (["_law_script"] : List Str) (spD K mg (["_law_script"] : List Str).length d_law) :=
  fn_DG (k := 8) F sc_law fun cdv A outer s H E gd C => by
    have nd := (sc_law).nd
    unfold m_law
    exact (dss_cons (ds_for C (di_range1 (T.free "range" (by decide)) de_int) (dg_nm (i := 1) nd) (dss_cons (ds_setO (i := 2) nd (dn_lst (das_cons (da_of (de_fn C ⟨D__law_cell⟩ (by decide) (das_cons (da_var 0) (das_cons (da_var 1) das_nil)) (arlen1 (arlen1 arlen0)))) das_nil) (arlen1 arlen0))) (dss_cons (ds_set (i := 3) nd (de_ixA C (da_of (de_own (dn_lst (das_cons (da_of (de_tup (das_cons (da_of de_int) (das_cons (da_of de_int) das_nil)) (arlen1 (arlen1 arlen0)))) (das_cons (da_of (de_tup (das_cons (da_of de_int) (das_cons (da_of de_int) das_nil)) (arlen1 (arlen1 arlen0)))) (das_cons (da_of (de_tup (das_cons (da_of de_int) (das_cons (da_of de_int) das_nil)) (arlen1 (arlen1 arlen0)))) das_nil))) (arlen1 (arlen1 (arlen1 arlen0)))))) (da_of (de_fn C ⟨D__law_take⟩ (by decide) (das_cons (da_var 2) (das_cons (da_of de_int) das_nil)) (arlen1 (arlen1 arlen0)))))) (dss_cons (ds_asg (de_own (dn_lcS 3 C.calm nd (Blk.mkC (own := [("_law_size", 14)]) C (show BlkOk ["_law_script", "_law_k", "_law_pile", "_law_sizes", "_law_left", "_law_right", "_law_a", "_law_b", "_law_long", "_law_both", "_law_powers_here", "_law_bent", "_law_some", "_law_one", "_law_size", "_law_two"] (defScope s_law) _ [("_law_size", 14)] from ⟨rfl, by decide +kernel, by decide +kernel, by first | decide +kernel | (refine no_free ?_; decide +kernel), by first | decide +kernel | (refine no_free ?_; decide +kernel)⟩) (by decide) (fun s H Cb cl fp C => (dg_nm (i := 14) nd)) (fun s H Cb cl fp C => dts_nil) (fun s H Cb cl fp C => (de_fn C ⟨D__law_form⟩ (by decide) (das_cons (da_var 2) (das_cons (da_var 14) (das_cons (da_of (de_ixA C (da_of (de_own (dn_lst (das_cons (da_of de_int) (das_cons (da_of de_int) (das_cons (da_of de_int) das_nil))) (arlen1 (arlen1 (arlen1 arlen0)))))) (da_of (de_fn C ⟨D__law_take⟩ (by decide) (das_cons (da_var 2) (das_cons (da_of de_int) das_nil)) (arlen1 (arlen1 arlen0)))))) das_nil))) (arlen1 (arlen1 (arlen1 arlen0)))))))) (dg_lst C.calm (dgs_cons (dg_nm (i := 4) nd) (dgs_cons (dg_nm (i := 5) nd) dgs_nil)))) (dss_cons (ds_set (i := 6) nd (de_fn C ⟨D__law_made⟩ (by decide) (das_cons (da_var 4) das_nil) (arlen1 arlen0))) (dss_cons (ds_set (i := 7) nd (de_fn C ⟨D__law_made⟩ (by decide) (das_cons (da_var 5) das_nil) (arlen1 arlen0))) (dss_cons (ds_set (i := 8) nd (de_fn C ⟨D__law_product⟩ (by decide) (das_cons (da_var 4) (das_cons (da_var 5) das_nil)) (arlen1 (arlen1 arlen0)))) (dss_cons (ds_set (i := 9) nd (de_fn C ⟨D__law_made⟩ (by decide) (das_cons (da_var 8) das_nil) (arlen1 arlen0))) (dss_cons (ds_if (dt_bool (dw_or (dt_neO C ⟨DN_Curve_eq⟩ (by decide) (da_of (de_meth C ⟨D_Curve_over⟩ (by decide) (da_var 9) (das_cons (da_var 6) das_nil) (fun s as s' h => by rw [(arlen1 arlen0) s as s' h]; rfl))) (da_var 7)) (dw_or1 (dt_neO C ⟨DN_Curve_eq⟩ (by decide) (da_of (de_meth C ⟨D_Curve_over⟩ (by decide) (da_var 9) (das_cons (da_var 7) das_nil) (fun s as s' h => by rw [(arlen1 arlen0) s as s' h]; rfl))) (da_var 6))))) (dss_one (ds_ret de_bl)) dss_nil) (dss_cons (ds_set (i := 10) nd (de_ixA C (da_of (de_own (dn_sort C (T.free "sorted" (by decide)) (das_cons (da_var 8) das_nil)))) (da_of (de_fn C ⟨D__law_take⟩ (by decide) (das_cons (da_var 2) (das_cons (da_of (de_len (T.free "len" (by decide)) (das_cons (da_var 8) das_nil))) das_nil)) (arlen1 (arlen1 arlen0)))))) (dss_cons (ds_setO (i := 11) nd (dn_dictX C (T.free "dict" (by decide)) (das_cons (da_var 8) das_nil))) (dss_cons (ds_put 11 C (de_add (da_of (de_add (da_of (de_ixA C (da_var 11) (da_var 10))) (da_of de_int))) (da_of (de_int1 (T.free "int" (by decide)) (das_cons (da_of (de_cmp (op_eqD (by have := C.room.un; omega)) s_eq (da_of (de_ixA C (da_var 11) (da_var 10))) (da_of (de_neg (da_of de_int))))) das_nil)))) (de_var 10)) (dss_cons (ds_setO (i := 12) nd (dn_lst (das_cons (da_of (de_var 6)) (das_cons (da_of (de_var 7)) (das_cons (da_of (de_var 9)) (das_cons (da_of (de_fn C ⟨D__law_made⟩ (by decide) (das_cons (da_of (de_var 11)) das_nil) (arlen1 arlen0))) (das_cons (da_of (de_fn C ⟨D__law_made⟩ (by decide) (das_cons (da_of (de_fn C ⟨D__law_form⟩ (by decide) (das_cons (da_var 2) (das_cons (da_of de_int) (das_cons (da_of de_int) das_nil))) (arlen1 (arlen1 (arlen1 arlen0))))) das_nil) (arlen1 arlen0))) (das_cons (da_of (de_fn C ⟨D__law_made⟩ (by decide) (das_cons (da_of (de_fn C ⟨D__law_form⟩ (by decide) (das_cons (da_var 2) (das_cons (da_of de_int) (das_cons (da_of de_int) das_nil))) (arlen1 (arlen1 (arlen1 arlen0))))) das_nil) (arlen1 arlen0))) das_nil)))))) (arlen1 (arlen1 (arlen1 (arlen1 (arlen1 (arlen1 arlen0)))))))) (dss_one (ds_frz 12 (ds_forS 12 C (dg_nm (i := 13) nd) (dss_one (ds_frz 12 (ds_if (dt_not (dt_val (de_all C (T.free "all" (by decide)) (das_cons (da_of (de_own (dn_lcS 12 C.calm nd (Blk.mkC (own := [("_law_two", 15)]) C (show BlkOk ["_law_script", "_law_k", "_law_pile", "_law_sizes", "_law_left", "_law_right", "_law_a", "_law_b", "_law_long", "_law_both", "_law_powers_here", "_law_bent", "_law_some", "_law_one", "_law_size", "_law_two"] (defScope s_law) _ [("_law_two", 15)] from ⟨rfl, by decide +kernel, by decide +kernel, by first | decide +kernel | (refine no_free ?_; decide +kernel), by first | decide +kernel | (refine no_free ?_; decide +kernel)⟩) (by decide) (fun s H Cb cl fp C => (dg_nm (i := 15) nd)) (fun s H Cb cl fp C => dts_nil) (fun s H Cb cl fp C => (de_fnG C gd ⟨D__law_good⟩ (by decide) (das_cons (da_var 13) (das_cons (da_var 15) das_nil)) (arlen1 (arlen1 arlen0)))))))) das_nil)))) (dss_one (ds_ret de_bl)) dss_nil))))))))))))))))))) (dss_one (ds_ret de_bl)))
end
end LW

set_option autoImplicit true
namespace LW
open PySem PySem.Spec PyProof.Rows L2 DL
def e__law_mixed : He.DefD := ⟨("_law_mixed", none), "_law_mixed", "_law_mixed", defArgs s__law_mixed, defBody s__law_mixed, defScope s__law_mixed, [], []⟩
def e__law_cell : He.DefD := ⟨("_law_cell", none), "_law_cell", "_law_cell", defArgs s__law_cell, defBody s__law_cell, defScope s__law_cell, [], []⟩
def e__law_take : He.DefD := ⟨("_law_take", none), "_law_take", "_law_take", defArgs s__law_take, defBody s__law_take, defScope s__law_take, [], []⟩
def e__law_powers : He.DefD := ⟨("_law_powers", none), "_law_powers", "_law_powers", defArgs s__law_powers, defBody s__law_powers, defScope s__law_powers, [], []⟩
def e__law_form : He.DefD := ⟨("_law_form", none), "_law_form", "_law_form", defArgs s__law_form, defBody s__law_form, defScope s__law_form, [], []⟩
def e_is_number : He.DefD := ⟨("is_number", none), "is_number", "is_number", defArgs s_is_number, defBody s_is_number, defScope s_is_number, [], []⟩
def e_is_term : He.DefD := ⟨("is_term", none), "is_term", "is_term", defArgs s_is_term, defBody s_is_term, defScope s_is_term, [], []⟩
def e_look_at_terms : He.DefD := ⟨("look_at_terms", none), "look_at_terms", "look_at_terms", defArgs s_look_at_terms, defBody s_look_at_terms, defScope s_look_at_terms, [], []⟩
def e_common : He.DefD := ⟨("common", none), "common", "common", defArgs s_common, defBody s_common, defScope s_common, [], []⟩
def e_common_of : He.DefD := ⟨("common_of", none), "common_of", "common_of", defArgs s_common_of, defBody s_common_of, defScope s_common_of, [], []⟩
def e_Curve_init : He.DefD := ⟨("Curve", some "__init__"), "__init__", "Curve.__init__", defArgs s_Curve_init, defBody s_Curve_init, defScope s_Curve_init, [], []⟩
def e__law_made : He.DefD := ⟨("_law_made", none), "_law_made", "_law_made", defArgs s__law_made, defBody s__law_made, defScope s__law_made, [], []⟩
def e__law_product : He.DefD := ⟨("_law_product", none), "_law_product", "_law_product", defArgs s__law_product, defBody s__law_product, defScope s__law_product, [], []⟩
def e_Curve_eq : He.DefD := ⟨("Curve", some "__eq__"), "__eq__", "Curve.__eq__", defArgs s_Curve_eq, defBody s_Curve_eq, defScope s_Curve_eq, [], []⟩
def e_is_curve : He.DefD := ⟨("is_curve", none), "is_curve", "is_curve", defArgs s_is_curve, defBody s_is_curve, defScope s_is_curve, [], []⟩
def e_look_at_curve : He.DefD := ⟨("look_at_curve", none), "look_at_curve", "look_at_curve", defArgs s_look_at_curve, defBody s_look_at_curve, defScope s_look_at_curve, [], []⟩
def e_Curve_table : He.DefD := ⟨("Curve", some "table"), "table", "Curve.table", defArgs s_Curve_table, defBody s_Curve_table, defScope s_Curve_table, [], []⟩
def e_added_to : He.DefD := ⟨("added_to", none), "added_to", "added_to", defArgs s_added_to, defBody s_added_to, defScope s_added_to, [], []⟩
def e_thinned : He.DefD := ⟨("thinned", none), "thinned", "thinned", defArgs s_thinned, defBody s_thinned, defScope s_thinned, [], []⟩
def e_product : He.DefD := ⟨("product", none), "product", "product", defArgs s_product, defBody s_product, defScope s_product, [], []⟩
def e_summed : He.DefD := ⟨("summed", none), "summed", "summed", defArgs s_summed, defBody s_summed, defScope s_summed, [], []⟩
def e_divided : He.DefD := ⟨("divided", none), "divided", "divided", defArgs s_divided, defBody s_divided, defScope s_divided, [], []⟩
def e_curve_of : He.DefD := ⟨("curve_of", none), "curve_of", "curve_of", defArgs s_curve_of, defBody s_curve_of, defScope s_curve_of, [], []⟩
def e_Curve_over : He.DefD := ⟨("Curve", some "over"), "over", "Curve.over", defArgs s_Curve_over, defBody s_Curve_over, defScope s_Curve_over, [], []⟩
def e_Curve_repr : He.DefD := ⟨("Curve", some "__repr__"), "__repr__", "Curve.__repr__", defArgs s_Curve_repr, defBody s_Curve_repr, defScope s_Curve_repr, [], []⟩
def e__law_table : He.DefD := ⟨("_law_table", none), "_law_table", "_law_table", defArgs s__law_table, defBody s__law_table, defScope s__law_table, [], []⟩
def e__law_due : He.DefD := ⟨("_law_due", none), "_law_due", "_law_due", defArgs s__law_due, defBody s__law_due, defScope s__law_due, [], []⟩
def e__law_common : He.DefD := ⟨("_law_common", none), "_law_common", "_law_common", defArgs s__law_common, defBody s__law_common, defScope s__law_common, [], []⟩
def e__law_kept : He.DefD := ⟨("_law_kept", none), "_law_kept", "_law_kept", defArgs s__law_kept, defBody s__law_kept, defScope s__law_kept, [], []⟩
def e__law_good : He.DefD := ⟨("_law_good", none), "_law_good", "_law_good", defArgs s__law_good, defBody s__law_good, defScope s__law_good, [], []⟩
def e_law : He.DefD := ⟨("law", none), "law", "law", defArgs s_law, defBody s_law, defScope s_law, [], []⟩
def fnL : List He.DefD := [e__law_mixed, e__law_cell, e__law_take, e__law_powers, e__law_form, e_is_number, e_is_term, e_look_at_terms, e_common, e_common_of, e_Curve_init, e__law_made, e__law_product, e_Curve_eq, e_is_curve, e_look_at_curve, e_Curve_table, e_added_to, e_thinned, e_product, e_summed, e_divided, e_curve_of, e_Curve_over, e_Curve_repr, e__law_table, e__law_due, e__law_common, e__law_kept, e__law_good, e_law]
def fa0 : List He.Fa := [.glo "_law_mixed", .glo "_law_cell", .glo "_law_take", .glo "_law_powers", .glo "_law_form", .glo "is_number", .glo "is_term", .glo "look_at_terms", .glo "common", .glo "common_of", .glo "_law_made", .glo "_law_product", .glo "is_curve", .glo "look_at_curve", .glo "added_to", .glo "thinned", .glo "product", .glo "summed", .glo "divided", .glo "curve_of", .glo "_law_table", .glo "_law_due", .glo "_law_common", .glo "_law_kept", .glo "_law_good", .glo "law", .glo "Curve", .cls "Curve", .free "abs", .free "all"]
def fa1 : List He.Fa := [.free "bool", .free "dict", .free "enumerate", .free "int", .free "isinstance", .free "len", .free "list", .free "max", .free "min", .free "range", .free "repr", .free "sorted", .free "sum", .free "tuple", .int "MOST_DEGREE" 3, .int "MOST_TERMS" 10, .noat "Curve" "degree", .noat "Curve" "terms", .meth "Curve" "__eq__", .meth "Curve" "table", .meth "Curve" "over", .meth "Curve" "__repr__", .mkr "Curve"]
def faL : List He.Fa := fa0 ++ fa1
def exL (K : PySem.W.Frag) : List Bool := [decide (PySem.W.findIn K (.ref (He.ga K "Curve")) "__class__" = some (some (.builtin "object.__class__"))),
  decide (PySem.W.mroIn K (He.ga K "Curve") (.type "object") = some true),
  decide (PySem.W.kitOne K (.ref (He.ga K "Curve")) (.type "bool") = some false),
  decide (PySem.W.kitOne K (.ref (He.ga K "Curve")) (.type "int") = some false),
  decide (PySem.W.kitOne K (.ref (He.ga K "Curve")) (.type "list") = some false),
  decide (PySem.W.kitOne K (.ref (He.ga K "Curve")) (.type "tuple") = some false),
  decide (PySem.W.kitOne K (.ref (He.ga K "Curve")) (.ref (He.ga K "Curve")) = some true),
  (tnames.all fun t => decide (PySem.W.kitOne K (.type t) (.ref (He.ga K "Curve")) = some false)),
  decide (PySem.W.findIn K (.ref (He.ga K "Curve")) "__ne__" = some (some (.builtin "object.__ne__"))),
  decide (PySem.W.subIn K (.ref (He.ga K "Curve")) (.type "object") = some true),
  decide (PySem.W.specialIn K (.builtin "object.__class__") "__get__" = some (some (.builtin "getset_descriptor.__get__"))),
  decide (PySem.W.takesIn K (.builtin "object.__class__") = some true)]
def exB (K : PySem.W.Frag) : Bool := (exL K).all id
abbrev Rw : PySem.W.OpenRow := PySem.W.OpenLaw.row PySem.Challenge.rw_meetcount_k10_curves_over_curves
abbrev hk : PySem.W.Hook := He.hookX 6 faL fnL [] [] exB
def ob (s : PySem.W.SharedT) : He.AlX := He.obsX 6 faL fnL [] [] exB (HandSHeadRun.getT s)
theorem ob_eq (s : PySem.W.SharedT) : ob s = hk.obs s.abs := He.obsX_eq (HandSHeadRun.getT_eq s)
theorem ex_at {K : PySem.W.Frag} (h : exB K = true) (i : Nat) {b : Bool} (e : (exL K)[i]? = some b) : b = true := List.all_eq_true.mp h b (List.mem_of_getElem? e)
theorem fun_of {K : PySem.W.Frag} {x qual : Str} {st : Stmt} {f : Addr} {fd : FuncData} (F : FunD K x qual (defArgs st) (defBody st) (defScope st) [] [] f fd) : Fun K x qual st f fd := by
  obtain ⟨oc, od, dV, kV, doc, pm, an, cdv, ct, osl, rfl, lk, hcd, hD, hK⟩ := F.ex
  rcases hD with ⟨_, rfl⟩ | ⟨e, _⟩
  · exact ⟨⟨oc, od, kV, doc, pm, an, cdv, ct, osl, rfl, lk, hcd⟩, F.kp⟩
  · exact absurd rfl e
section
variable {P : Program} {w : World} {K : PySem.W.Frag} {h : Heap} {mg : Str → Option Value}
theorem tp_of (X : K.In h) (G : h.Ns mainGlobals mg) (c : He.SaysD faL fnL K) (hx : exB K = true) : Tp K mg := by
  have glo : ∀ x, He.Fa.glo x ∈ faL → mg x = some (.ref (He.ga K x)) := fun x m => He.glo_ok X G (c.facts m)
  have q1 : PySem.W.specialIn K (.builtin "object.__class__") "__get__" = some (some (.builtin "getset_descriptor.__get__")) := of_decide_eq_true (ex_at hx 10 rfl)
  have q2 : PySem.W.takesIn K (.builtin "object.__class__") = some true := of_decide_eq_true (ex_at hx 11 rfl)
  have ins_Curve : InsF K (He.ga K "Curve") := ⟨He.cls_ok (c.facts (f := .cls "Curve") (by simp [faL, fa0, fa1])), of_decide_eq_true (ex_at hx 0 rfl), q1, q2, of_decide_eq_true (ex_at hx 1 rfl)⟩
  exact {
    free := fun x hx => by
      have : He.Fa.free x ∈ faL := by
        have h2 : x ∈ freeL := by simpa using hx
        simp only [freeL, List.mem_cons, List.not_mem_nil, or_false] at h2
        rcases h2 with rfl | rfl | rfl | rfl | rfl | rfl | rfl | rfl | rfl | rfl | rfl | rfl | rfl | rfl | rfl | rfl <;> simp [faL, fa0, fa1]
      exact He.free_ok X G (c.facts this)
    ci_MOST_DEGREE := He.int_ok X G (c.facts (by simp [faL, fa0, fa1]))
    ci_MOST_TERMS := He.int_ok X G (c.facts (by simp [faL, fa0, fa1]))
    att_Curve_degree := ⟨_, glo _ (by simp [faL, fa0, fa1]), He.cls_ok (c.facts (by simp [faL, fa0, fa1])), He.noat_ok (c.facts (by simp [faL, fa0, fa1]))⟩
    att_Curve_terms := ⟨_, glo _ (by simp [faL, fa0, fa1]), He.cls_ok (c.facts (by simp [faL, fa0, fa1])), He.noat_ok (c.facts (by simp [faL, fa0, fa1]))⟩
    ist_bool := fun c hc => by
      have hc : c ∈ osL := by simpa using hc
      simp only [osL, List.mem_cons, List.not_mem_nil, or_false] at hc
      subst hc
      · exact ⟨_, glo _ (by simp [faL, fa0, fa1]), ins_Curve, of_decide_eq_true (ex_at hx 2 rfl)⟩
    ist_int := fun c hc => by
      have hc : c ∈ osL := by simpa using hc
      simp only [osL, List.mem_cons, List.not_mem_nil, or_false] at hc
      subst hc
      · exact ⟨_, glo _ (by simp [faL, fa0, fa1]), ins_Curve, of_decide_eq_true (ex_at hx 3 rfl)⟩
    ist_list := fun c hc => by
      have hc : c ∈ osL := by simpa using hc
      simp only [osL, List.mem_cons, List.not_mem_nil, or_false] at hc
      subst hc
      · exact ⟨_, glo _ (by simp [faL, fa0, fa1]), ins_Curve, of_decide_eq_true (ex_at hx 4 rfl)⟩
    ist_tuple := fun c hc => by
      have hc : c ∈ osL := by simpa using hc
      simp only [osL, List.mem_cons, List.not_mem_nil, or_false] at hc
      subst hc
      · exact ⟨_, glo _ (by simp [faL, fa0, fa1]), ins_Curve, of_decide_eq_true (ex_at hx 5 rfl)⟩
    isc_Curve := ⟨_, glo _ (by simp [faL, fa0, fa1]), fun t ht => of_decide_eq_true (List.all_eq_true.mp (ex_at hx 7 rfl) t ht), fun c hc => by
      have hc : c ∈ osL := by simpa using hc
      simp only [osL, List.mem_cons, List.not_mem_nil, or_false] at hc
      subst hc
      · exact ⟨_, glo _ (by simp [faL, fa0, fa1]), ins_Curve, (of_decide_eq_true (ex_at hx 6 rfl)).trans (by rfl)⟩⟩
  }
theorem kwb_of {x qual : Str} {st : Stmt} {f : Addr} {fd : FuncData} {ps ks : List Str} {n : Nat} {idx : List Nat} (F : Fun K x qual st f fd) (hl : idx.length = ps.length)
    (hb : ∀ (kV doc pm : Value) (an : Option Addr) (cdv ct : Value) (us ws : List Value), us.length = n → ws.length = ks.length → bindArgs (PySem.W.fnOf x qual (defArgs st) (defBody st) (defScope st) .none kV doc pm an cdv ct) ⟨us, ks.zip ws⟩ = pure (ps.zip (pick idx .none (us ++ ws)))) : KwB K fd ps n ks idx := by
  obtain ⟨oc, od, kV, doc, pm, an, cdv, ct, osl, rfl, lk, hcd⟩ := F.ex
  exact ⟨fun s us ws _ l1 l2 => .of_eq (hb kV doc pm an cdv ct us ws l1 l2), hl⟩
set_option maxHeartbeats 0 in
theorem facts (X : K.In h) (G : h.Ns mainGlobals mg) {f : Addr} (hfa : mg ("law" : Str) = some (.ref f)) (c : He.SaysD faL fnL K) (hx : exB K = true) :
    ∃ fd : FuncData, (∀ (s : Shared) (v : Value), BindsTo s fd ⟨[v], []⟩ [("_law_script", v)]) ∧ ∀ base : Heap, K.In base → base.Ns mainGlobals mg → FnG N0 P w K mg base (L2.CX P w) 9 f fd (["_law_script"] : List Str) (spD K mg (["_law_script"] : List Str).length d_law) := by
  have T := tp_of X G c hx
  have glo : ∀ x, He.Fa.glo x ∈ faL → mg x = some (.ref (He.ga K x)) := fun x m => He.glo_ok X G (c.facts m)
  obtain ⟨fd__law_mixed, G__law_mixed⟩ := c.def_ 0 (d := e__law_mixed) rfl
  have F__law_mixed : Fun K "_law_mixed" "_law_mixed" s__law_mixed (He.fAd K ("_law_mixed", none)) fd__law_mixed := fun_of G__law_mixed
  have b__law_mixed : Binds K fd__law_mixed (["_law_cell_here", "_law_k"] : List Str) [] := F__law_mixed.binds fun _ _ _ _ _ _ us hl => match us, hl with | [_, _], _ => rfl
  obtain ⟨fd__law_cell, G__law_cell⟩ := c.def_ 1 (d := e__law_cell) rfl
  have F__law_cell : Fun K "_law_cell" "_law_cell" s__law_cell (He.fAd K ("_law_cell", none)) fd__law_cell := fun_of G__law_cell
  have b__law_cell : Binds K fd__law_cell (["_law_script", "_law_k"] : List Str) [] := F__law_cell.binds fun _ _ _ _ _ _ us hl => match us, hl with | [_, _], _ => rfl
  obtain ⟨fd__law_take, G__law_take⟩ := c.def_ 2 (d := e__law_take) rfl
  have F__law_take : Fun K "_law_take" "_law_take" s__law_take (He.fAd K ("_law_take", none)) fd__law_take := fun_of G__law_take
  have b__law_take : Binds K fd__law_take (["_law_pile", "_law_size"] : List Str) [] := F__law_take.binds fun _ _ _ _ _ _ us hl => match us, hl with | [_, _], _ => rfl
  obtain ⟨fd__law_powers, G__law_powers⟩ := c.def_ 3 (d := e__law_powers) rfl
  have F__law_powers : Fun K "_law_powers" "_law_powers" s__law_powers (He.fAd K ("_law_powers", none)) fd__law_powers := fun_of G__law_powers
  have b__law_powers : Binds K fd__law_powers (["_law_size"] : List Str) [] := F__law_powers.binds fun _ _ _ _ _ _ us hl => match us, hl with | [_], _ => rfl
  obtain ⟨fd__law_form, G__law_form⟩ := c.def_ 4 (d := e__law_form) rfl
  have F__law_form : Fun K "_law_form" "_law_form" s__law_form (He.fAd K ("_law_form", none)) fd__law_form := fun_of G__law_form
  have b__law_form : Binds K fd__law_form (["_law_pile", "_law_size", "_law_most"] : List Str) [] := F__law_form.binds fun _ _ _ _ _ _ us hl => match us, hl with | [_, _, _], _ => rfl
  obtain ⟨fd_is_number, G_is_number⟩ := c.def_ 5 (d := e_is_number) rfl
  have F_is_number : Fun K "is_number" "is_number" s_is_number (He.fAd K ("is_number", none)) fd_is_number := fun_of G_is_number
  have b_is_number : Binds K fd_is_number (["thing"] : List Str) [] := F_is_number.binds fun _ _ _ _ _ _ us hl => match us, hl with | [_], _ => rfl
  obtain ⟨fd_is_term, G_is_term⟩ := c.def_ 6 (d := e_is_term) rfl
  have F_is_term : Fun K "is_term" "is_term" s_is_term (He.fAd K ("is_term", none)) fd_is_term := fun_of G_is_term
  have b_is_term : Binds K fd_is_term (["thing"] : List Str) [] := F_is_term.binds fun _ _ _ _ _ _ us hl => match us, hl with | [_], _ => rfl
  obtain ⟨fd_look_at_terms, G_look_at_terms⟩ := c.def_ 7 (d := e_look_at_terms) rfl
  have F_look_at_terms : Fun K "look_at_terms" "look_at_terms" s_look_at_terms (He.fAd K ("look_at_terms", none)) fd_look_at_terms := fun_of G_look_at_terms
  have b_look_at_terms : Binds K fd_look_at_terms (["thing"] : List Str) [] := F_look_at_terms.binds fun _ _ _ _ _ _ us hl => match us, hl with | [_], _ => rfl
  obtain ⟨fd_common, G_common⟩ := c.def_ 8 (d := e_common) rfl
  have F_common : Fun K "common" "common" s_common (He.fAd K ("common", none)) fd_common := fun_of G_common
  have b_common : Binds K fd_common (["one", "other"] : List Str) [] := F_common.binds fun _ _ _ _ _ _ us hl => match us, hl with | [_, _], _ => rfl
  obtain ⟨fd_common_of, G_common_of⟩ := c.def_ 9 (d := e_common_of) rfl
  have F_common_of : Fun K "common_of" "common_of" s_common_of (He.fAd K ("common_of", none)) fd_common_of := fun_of G_common_of
  have b_common_of : Binds K fd_common_of (["numbers"] : List Str) [] := F_common_of.binds fun _ _ _ _ _ _ us hl => match us, hl with | [_], _ => rfl
  obtain ⟨fd_Curve_init, G_Curve_init⟩ := c.def_ 10 (d := e_Curve_init) rfl
  have F_Curve_init : Fun K "__init__" "Curve.__init__" s_Curve_init (He.fAd K ("Curve", some "__init__")) fd_Curve_init := fun_of G_Curve_init
  have b_Curve_init : Binds K fd_Curve_init (["self", "terms"] : List Str) [] := F_Curve_init.binds fun _ _ _ _ _ _ us hl => match us, hl with | [_, _], _ => rfl
  obtain ⟨fd__law_made, G__law_made⟩ := c.def_ 11 (d := e__law_made) rfl
  have F__law_made : Fun K "_law_made" "_law_made" s__law_made (He.fAd K ("_law_made", none)) fd__law_made := fun_of G__law_made
  have b__law_made : Binds K fd__law_made (["_law_form_here"] : List Str) [] := F__law_made.binds fun _ _ _ _ _ _ us hl => match us, hl with | [_], _ => rfl
  obtain ⟨fd__law_product, G__law_product⟩ := c.def_ 12 (d := e__law_product) rfl
  have F__law_product : Fun K "_law_product" "_law_product" s__law_product (He.fAd K ("_law_product", none)) fd__law_product := fun_of G__law_product
  have b__law_product : Binds K fd__law_product (["_law_left", "_law_right"] : List Str) [] := F__law_product.binds fun _ _ _ _ _ _ us hl => match us, hl with | [_, _], _ => rfl
  obtain ⟨fd_Curve_eq, G_Curve_eq⟩ := c.def_ 13 (d := e_Curve_eq) rfl
  have F_Curve_eq : Fun K "__eq__" "Curve.__eq__" s_Curve_eq (He.fAd K ("Curve", some "__eq__")) fd_Curve_eq := fun_of G_Curve_eq
  have b_Curve_eq : Binds K fd_Curve_eq (["self", "other"] : List Str) [] := F_Curve_eq.binds fun _ _ _ _ _ _ us hl => match us, hl with | [_, _], _ => rfl
  obtain ⟨fd_is_curve, G_is_curve⟩ := c.def_ 14 (d := e_is_curve) rfl
  have F_is_curve : Fun K "is_curve" "is_curve" s_is_curve (He.fAd K ("is_curve", none)) fd_is_curve := fun_of G_is_curve
  have b_is_curve : Binds K fd_is_curve (["thing"] : List Str) [] := F_is_curve.binds fun _ _ _ _ _ _ us hl => match us, hl with | [_], _ => rfl
  obtain ⟨fd_look_at_curve, G_look_at_curve⟩ := c.def_ 15 (d := e_look_at_curve) rfl
  have F_look_at_curve : Fun K "look_at_curve" "look_at_curve" s_look_at_curve (He.fAd K ("look_at_curve", none)) fd_look_at_curve := fun_of G_look_at_curve
  have b_look_at_curve : Binds K fd_look_at_curve (["thing"] : List Str) [] := F_look_at_curve.binds fun _ _ _ _ _ _ us hl => match us, hl with | [_], _ => rfl
  obtain ⟨fd_Curve_table, G_Curve_table⟩ := c.def_ 16 (d := e_Curve_table) rfl
  have F_Curve_table : Fun K "table" "Curve.table" s_Curve_table (He.fAd K ("Curve", some "table")) fd_Curve_table := fun_of G_Curve_table
  have b_Curve_table : Binds K fd_Curve_table (["self"] : List Str) [] := F_Curve_table.binds fun _ _ _ _ _ _ us hl => match us, hl with | [_], _ => rfl
  obtain ⟨fd_added_to, G_added_to⟩ := c.def_ 17 (d := e_added_to) rfl
  have F_added_to : Fun K "added_to" "added_to" s_added_to (He.fAd K ("added_to", none)) fd_added_to := fun_of G_added_to
  have b_added_to : Binds K fd_added_to (["table", "powers", "number"] : List Str) [] := F_added_to.binds fun _ _ _ _ _ _ us hl => match us, hl with | [_, _, _], _ => rfl
  obtain ⟨fd_thinned, G_thinned⟩ := c.def_ 18 (d := e_thinned) rfl
  have F_thinned : Fun K "thinned" "thinned" s_thinned (He.fAd K ("thinned", none)) fd_thinned := fun_of G_thinned
  have b_thinned : Binds K fd_thinned (["table"] : List Str) [] := F_thinned.binds fun _ _ _ _ _ _ us hl => match us, hl with | [_], _ => rfl
  obtain ⟨fd_product, G_product⟩ := c.def_ 19 (d := e_product) rfl
  have F_product : Fun K "product" "product" s_product (He.fAd K ("product", none)) fd_product := fun_of G_product
  have b_product : Binds K fd_product (["one", "other"] : List Str) [] := F_product.binds fun _ _ _ _ _ _ us hl => match us, hl with | [_, _], _ => rfl
  obtain ⟨fd_summed, G_summed⟩ := c.def_ 20 (d := e_summed) rfl
  have F_summed : Fun K "summed" "summed" s_summed (He.fAd K ("summed", none)) fd_summed := fun_of G_summed
  have b_summed : Binds K fd_summed (["one", "other", "times"] : List Str) [] := F_summed.binds fun _ _ _ _ _ _ us hl => match us, hl with | [_, _, _], _ => rfl
  obtain ⟨fd_divided, G_divided⟩ := c.def_ 21 (d := e_divided) rfl
  have F_divided : Fun K "divided" "divided" s_divided (He.fAd K ("divided", none)) fd_divided := fun_of G_divided
  have b_divided : Binds K fd_divided (["table", "by"] : List Str) [] := F_divided.binds fun _ _ _ _ _ _ us hl => match us, hl with | [_, _], _ => rfl
  obtain ⟨fd_curve_of, G_curve_of⟩ := c.def_ 22 (d := e_curve_of) rfl
  have F_curve_of : Fun K "curve_of" "curve_of" s_curve_of (He.fAd K ("curve_of", none)) fd_curve_of := fun_of G_curve_of
  have b_curve_of : Binds K fd_curve_of (["table"] : List Str) [] := F_curve_of.binds fun _ _ _ _ _ _ us hl => match us, hl with | [_], _ => rfl
  obtain ⟨fd_Curve_over, G_Curve_over⟩ := c.def_ 23 (d := e_Curve_over) rfl
  have F_Curve_over : Fun K "over" "Curve.over" s_Curve_over (He.fAd K ("Curve", some "over")) fd_Curve_over := fun_of G_Curve_over
  have b_Curve_over : Binds K fd_Curve_over (["self", "other"] : List Str) [] := F_Curve_over.binds fun _ _ _ _ _ _ us hl => match us, hl with | [_, _], _ => rfl
  obtain ⟨fd_Curve_repr, G_Curve_repr⟩ := c.def_ 24 (d := e_Curve_repr) rfl
  have F_Curve_repr : Fun K "__repr__" "Curve.__repr__" s_Curve_repr (He.fAd K ("Curve", some "__repr__")) fd_Curve_repr := fun_of G_Curve_repr
  have b_Curve_repr : Binds K fd_Curve_repr (["self"] : List Str) [] := F_Curve_repr.binds fun _ _ _ _ _ _ us hl => match us, hl with | [_], _ => rfl
  obtain ⟨fd__law_table, G__law_table⟩ := c.def_ 25 (d := e__law_table) rfl
  have F__law_table : Fun K "_law_table" "_law_table" s__law_table (He.fAd K ("_law_table", none)) fd__law_table := fun_of G__law_table
  have b__law_table : Binds K fd__law_table (["_law_curve"] : List Str) [] := F__law_table.binds fun _ _ _ _ _ _ us hl => match us, hl with | [_], _ => rfl
  obtain ⟨fd__law_due, G__law_due⟩ := c.def_ 26 (d := e__law_due) rfl
  have F__law_due : Fun K "_law_due" "_law_due" s__law_due (He.fAd K ("_law_due", none)) fd__law_due := fun_of G__law_due
  have b__law_due : Binds K fd__law_due (["_law_form_here", "_law_by"] : List Str) [] := F__law_due.binds fun _ _ _ _ _ _ us hl => match us, hl with | [_, _], _ => rfl
  obtain ⟨fd__law_common, G__law_common⟩ := c.def_ 27 (d := e__law_common) rfl
  have F__law_common : Fun K "_law_common" "_law_common" s__law_common (He.fAd K ("_law_common", none)) fd__law_common := fun_of G__law_common
  have b__law_common : Binds K fd__law_common (["_law_left", "_law_right"] : List Str) [] := F__law_common.binds fun _ _ _ _ _ _ us hl => match us, hl with | [_, _], _ => rfl
  obtain ⟨fd__law_kept, G__law_kept⟩ := c.def_ 28 (d := e__law_kept) rfl
  have F__law_kept : Fun K "_law_kept" "_law_kept" s__law_kept (He.fAd K ("_law_kept", none)) fd__law_kept := fun_of G__law_kept
  have b__law_kept : Binds K fd__law_kept (["_law_form_here"] : List Str) [] := F__law_kept.binds fun _ _ _ _ _ _ us hl => match us, hl with | [_], _ => rfl
  obtain ⟨fd__law_good, G__law_good⟩ := c.def_ 29 (d := e__law_good) rfl
  have F__law_good : Fun K "_law_good" "_law_good" s__law_good (He.fAd K ("_law_good", none)) fd__law_good := fun_of G__law_good
  have b__law_good : Binds K fd__law_good (["_law_one", "_law_two"] : List Str) [] := F__law_good.binds fun _ _ _ _ _ _ us hl => match us, hl with | [_, _], _ => rfl
  obtain ⟨fd_law, G_law⟩ := c.def_ 30 (d := e_law) rfl
  have F_law : Fun K "law" "law" s_law (He.fAd K ("law", none)) fd_law := fun_of G_law
  have b_law : Binds K fd_law (["_law_script"] : List Str) [] := F_law.binds fun _ _ _ _ _ _ us hl => match us, hl with | [_], _ => rfl
  have e := hfa.symm.trans (glo "law" (by simp [faL, fa0, fa1]))
  cases e
  refine ⟨fd_law, fun s v => FunD.bindsA (ps := (["_law_script"] : List Str)) G_law (fun _ _ _ _ _ _ us hl => match us, hl with | [_], _ => rfl) s [v] rfl, fun base _ _ => ?_⟩
  have o__law_mixed := ok__law_mixed (P := P) (w := w) (base := base) T  F__law_mixed
  have D__law_mixed : ∃ f fd, FnOk P w K mg base (L2.CX P w) 1 f fd (["_law_cell_here", "_law_k"] : List Str) (spD K mg (["_law_cell_here", "_law_k"] : List Str).length d__law_mixed) ∧ mg "_law_mixed" = some (.ref f) ∧ PySem.W.keepIn K (.ref f) = true ∧ Binds K fd (["_law_cell_here", "_law_k"] : List Str) [] := ⟨_, _, o__law_mixed, glo _ (by simp [faL, fa0, fa1]), F__law_mixed.kp, b__law_mixed⟩
  have o__law_cell := ok__law_cell (P := P) (w := w) (base := base) T D__law_mixed F__law_cell
  have o__law_take := ok__law_take (P := P) (w := w) (base := base) T  F__law_take
  have o__law_powers := ok__law_powers (P := P) (w := w) (base := base) T  F__law_powers
  have D__law_take : ∃ f fd, FnOk P w K mg base (L2.CX P w) 1 f fd (["_law_pile", "_law_size"] : List Str) (spD K mg (["_law_pile", "_law_size"] : List Str).length d__law_take) ∧ mg "_law_take" = some (.ref f) ∧ PySem.W.keepIn K (.ref f) = true ∧ Binds K fd (["_law_pile", "_law_size"] : List Str) [] := ⟨_, _, o__law_take, glo _ (by simp [faL, fa0, fa1]), F__law_take.kp, b__law_take⟩
  have D__law_powers : ∃ f fd, FnOk P w K mg base (L2.CX P w) 1 f fd (["_law_size"] : List Str) (spD K mg (["_law_size"] : List Str).length d__law_powers) ∧ mg "_law_powers" = some (.ref f) ∧ PySem.W.keepIn K (.ref f) = true ∧ Binds K fd (["_law_size"] : List Str) [] := ⟨_, _, o__law_powers, glo _ (by simp [faL, fa0, fa1]), F__law_powers.kp, b__law_powers⟩
  have o__law_form := ok__law_form (P := P) (w := w) (base := base) T D__law_take D__law_powers F__law_form
  have o_is_number := ok_is_number (P := P) (w := w) (base := base) T  F_is_number
  have D_is_number : ∃ f fd, FnOk P w K mg base (L2.CX P w) 1 f fd (["thing"] : List Str) (spD K mg (["thing"] : List Str).length d_is_number) ∧ mg "is_number" = some (.ref f) ∧ PySem.W.keepIn K (.ref f) = true ∧ Binds K fd (["thing"] : List Str) [] := ⟨_, _, o_is_number, glo _ (by simp [faL, fa0, fa1]), F_is_number.kp, b_is_number⟩
  have o_is_term := ok_is_term (P := P) (w := w) (base := base) T D_is_number F_is_term
  have D_is_term : ∃ f fd, FnOk P w K mg base (L2.CX P w) 2 f fd (["thing"] : List Str) (spD K mg (["thing"] : List Str).length d_is_term) ∧ mg "is_term" = some (.ref f) ∧ PySem.W.keepIn K (.ref f) = true ∧ Binds K fd (["thing"] : List Str) [] := ⟨_, _, o_is_term, glo _ (by simp [faL, fa0, fa1]), F_is_term.kp, b_is_term⟩
  have o_look_at_terms := ok_look_at_terms (P := P) (w := w) (base := base) T D_is_term F_look_at_terms
  have o_common := ok_common (P := P) (w := w) (base := base) T  F_common
  have D_common : ∃ f fd, FnOk P w K mg base (L2.CX P w) 1 f fd (["one", "other"] : List Str) (spD K mg (["one", "other"] : List Str).length d_common) ∧ mg "common" = some (.ref f) ∧ PySem.W.keepIn K (.ref f) = true ∧ Binds K fd (["one", "other"] : List Str) [] := ⟨_, _, o_common, glo _ (by simp [faL, fa0, fa1]), F_common.kp, b_common⟩
  have o_common_of := ok_common_of (P := P) (w := w) (base := base) T D_common F_common_of
  have D_look_at_terms : ∃ f fd, FnOk P w K mg base (L2.CX P w) 3 f fd (["thing"] : List Str) (spD K mg (["thing"] : List Str).length d_look_at_terms) ∧ mg "look_at_terms" = some (.ref f) ∧ PySem.W.keepIn K (.ref f) = true ∧ Binds K fd (["thing"] : List Str) [] := ⟨_, _, o_look_at_terms, glo _ (by simp [faL, fa0, fa1]), F_look_at_terms.kp, b_look_at_terms⟩
  have D_common_of : ∃ f fd, FnOk P w K mg base (L2.CX P w) 2 f fd (["numbers"] : List Str) (spD K mg (["numbers"] : List Str).length d_common_of) ∧ mg "common_of" = some (.ref f) ∧ PySem.W.keepIn K (.ref f) = true ∧ Binds K fd (["numbers"] : List Str) [] := ⟨_, _, o_common_of, glo _ (by simp [faL, fa0, fa1]), F_common_of.kp, b_common_of⟩
  have o_Curve_init := ok_Curve_init (P := P) (w := w) (base := base) T D_look_at_terms D_common_of F_Curve_init
  have D_Curve_init : ∃ C f fd, mg "Curve" = some (.ref C) ∧ Mk K C f ∧ FnOk P w K mg base (L2.CX P w) 4 f fd (["self", "terms"] : List Str) (spD K mg (["self", "terms"] : List Str).length d_Curve_init) ∧ Binds K fd (["self", "terms"] : List Str) [] := ⟨_, _, _, glo _ (by simp [faL, fa0, fa1]), He.mkr_ok (c.facts (by simp [faL, fa0, fa1])), o_Curve_init, b_Curve_init⟩
  have o__law_made := ok__law_made (P := P) (w := w) (base := base) T D_Curve_init F__law_made
  have o__law_product := ok__law_product (P := P) (w := w) (base := base) T  F__law_product
  have o_Curve_eq := ok_Curve_eq (P := P) (w := w) (base := base) T  F_Curve_eq
  have o_is_curve := ok_is_curve (P := P) (w := w) (base := base) T  F_is_curve
  have D_is_curve : ∃ f fd, FnOk P w K mg base (L2.CX P w) 1 f fd (["thing"] : List Str) (spD K mg (["thing"] : List Str).length d_is_curve) ∧ mg "is_curve" = some (.ref f) ∧ PySem.W.keepIn K (.ref f) = true ∧ Binds K fd (["thing"] : List Str) [] := ⟨_, _, o_is_curve, glo _ (by simp [faL, fa0, fa1]), F_is_curve.kp, b_is_curve⟩
  have o_look_at_curve := ok_look_at_curve (P := P) (w := w) (base := base) T D_is_curve F_look_at_curve
  have o_Curve_table := ok_Curve_table (P := P) (w := w) (base := base) T  F_Curve_table
  have o_added_to := ok_added_to (P := P) (w := w) (base := base) T  F_added_to
  have o_thinned := ok_thinned (P := P) (w := w) (base := base) T  F_thinned
  have D_added_to : ∃ f fd, FnOk P w K mg base (L2.CX P w) 1 f fd (["table", "powers", "number"] : List Str) (spD K mg (["table", "powers", "number"] : List Str).length d_added_to) ∧ mg "added_to" = some (.ref f) ∧ PySem.W.keepIn K (.ref f) = true ∧ Binds K fd (["table", "powers", "number"] : List Str) [] := ⟨_, _, o_added_to, glo _ (by simp [faL, fa0, fa1]), F_added_to.kp, b_added_to⟩
  have D_thinned : ∃ f fd, FnOk P w K mg base (L2.CX P w) 1 f fd (["table"] : List Str) (spD K mg (["table"] : List Str).length d_thinned) ∧ mg "thinned" = some (.ref f) ∧ PySem.W.keepIn K (.ref f) = true ∧ Binds K fd (["table"] : List Str) [] := ⟨_, _, o_thinned, glo _ (by simp [faL, fa0, fa1]), F_thinned.kp, b_thinned⟩
  have o_product := ok_product (P := P) (w := w) (base := base) T D_added_to D_thinned F_product
  have o_summed := ok_summed (P := P) (w := w) (base := base) T D_added_to D_thinned F_summed
  have D_product : ∃ f fd, FnOk P w K mg base (L2.CX P w) 2 f fd (["one", "other"] : List Str) (spD K mg (["one", "other"] : List Str).length d_product) ∧ mg "product" = some (.ref f) ∧ PySem.W.keepIn K (.ref f) = true ∧ Binds K fd (["one", "other"] : List Str) [] := ⟨_, _, o_product, glo _ (by simp [faL, fa0, fa1]), F_product.kp, b_product⟩
  have D_summed : ∃ f fd, FnOk P w K mg base (L2.CX P w) 2 f fd (["one", "other", "times"] : List Str) (spD K mg (["one", "other", "times"] : List Str).length d_summed) ∧ mg "summed" = some (.ref f) ∧ PySem.W.keepIn K (.ref f) = true ∧ Binds K fd (["one", "other", "times"] : List Str) [] := ⟨_, _, o_summed, glo _ (by simp [faL, fa0, fa1]), F_summed.kp, b_summed⟩
  have o_divided := ok_divided (P := P) (w := w) (base := base) T D_product D_summed F_divided
  have o_curve_of := ok_curve_of (P := P) (w := w) (base := base) T D_Curve_init F_curve_of
  have D_look_at_curve : ∃ f fd, FnOk P w K mg base (L2.CX P w) 2 f fd (["thing"] : List Str) (spD K mg (["thing"] : List Str).length d_look_at_curve) ∧ mg "look_at_curve" = some (.ref f) ∧ PySem.W.keepIn K (.ref f) = true ∧ Binds K fd (["thing"] : List Str) [] := ⟨_, _, o_look_at_curve, glo _ (by simp [faL, fa0, fa1]), F_look_at_curve.kp, b_look_at_curve⟩
  have D_Curve_table : ∃ C f fd, mg "Curve" = some (.ref C) ∧ Cls K C ∧ Meth K C "table" f ∧ FnOk P w K mg base (L2.CX P w) 1 f fd (["self"] : List Str) (spD K mg (["self"] : List Str).length d_Curve_table) ∧ Binds K fd (["self"] : List Str) [] := ⟨_, _, _, glo _ (by simp [faL, fa0, fa1]), He.cls_ok (c.facts (by simp [faL, fa0, fa1])), He.meth_ok (c.facts (by simp [faL, fa0, fa1])), o_Curve_table, b_Curve_table⟩
  have D_divided : ∃ f fd, FnOk P w K mg base (L2.CX P w) 3 f fd (["table", "by"] : List Str) (spD K mg (["table", "by"] : List Str).length d_divided) ∧ mg "divided" = some (.ref f) ∧ PySem.W.keepIn K (.ref f) = true ∧ Binds K fd (["table", "by"] : List Str) [] := ⟨_, _, o_divided, glo _ (by simp [faL, fa0, fa1]), F_divided.kp, b_divided⟩
  have D_curve_of : ∃ f fd, FnOk P w K mg base (L2.CX P w) 6 f fd (["table"] : List Str) (spD K mg (["table"] : List Str).length d_curve_of) ∧ mg "curve_of" = some (.ref f) ∧ PySem.W.keepIn K (.ref f) = true ∧ Binds K fd (["table"] : List Str) [] := ⟨_, _, o_curve_of, glo _ (by simp [faL, fa0, fa1]), F_curve_of.kp, b_curve_of⟩
  have o_Curve_over := ok_Curve_over (P := P) (w := w) (base := base) T D_look_at_curve D_Curve_table D_divided D_curve_of F_Curve_over
  have o_Curve_repr := ok_Curve_repr (P := P) (w := w) (base := base) T  F_Curve_repr
  have o__law_table := ok__law_table (P := P) (w := w) (base := base) T  F__law_table
  have o__law_due := ok__law_due (P := P) (w := w) (base := base) T  F__law_due
  have o__law_common := ok__law_common (P := P) (w := w) (base := base) T  F__law_common
  have D__law_common : ∃ f fd, FnOk P w K mg base (L2.CX P w) 1 f fd (["_law_left", "_law_right"] : List Str) (spD K mg (["_law_left", "_law_right"] : List Str).length d__law_common) ∧ mg "_law_common" = some (.ref f) ∧ PySem.W.keepIn K (.ref f) = true ∧ Binds K fd (["_law_left", "_law_right"] : List Str) [] := ⟨_, _, o__law_common, glo _ (by simp [faL, fa0, fa1]), F__law_common.kp, b__law_common⟩
  have o__law_kept := ok__law_kept (P := P) (w := w) (base := base) T D__law_common F__law_kept
  have DR_Curve_repr : ∃ C f fd ps, mg "Curve" = some (.ref C) ∧ PySem.W.findIn K (.ref C) "__repr__" = some (some (.ref f)) ∧ PySem.W.isFn K (.ref f) = true ∧ ps.length = 1 ∧ FnG G0 P w K mg base (L2.CX P w) 1 f fd ps (spD K mg ps.length d_Curve_repr) ∧ Binds K fd ps [] := ⟨_, _, _, (["self"] : List Str), glo _ (by simp [faL, fa0, fa1]), (He.meth_ok (c.facts (f := .meth "Curve" "__repr__") (by simp [faL, fa0, fa1]))).at_, (He.meth_ok (c.facts (f := .meth "Curve" "__repr__") (by simp [faL, fa0, fa1]))).fn, rfl, o_Curve_repr, b_Curve_repr⟩
  have D__law_table : ∃ f fd, FnOk P w K mg base (L2.CX P w) 1 f fd (["_law_curve"] : List Str) (spD K mg (["_law_curve"] : List Str).length d__law_table) ∧ mg "_law_table" = some (.ref f) ∧ PySem.W.keepIn K (.ref f) = true ∧ Binds K fd (["_law_curve"] : List Str) [] := ⟨_, _, o__law_table, glo _ (by simp [faL, fa0, fa1]), F__law_table.kp, b__law_table⟩
  have D__law_due : ∃ f fd, FnOk P w K mg base (L2.CX P w) 1 f fd (["_law_form_here", "_law_by"] : List Str) (spD K mg (["_law_form_here", "_law_by"] : List Str).length d__law_due) ∧ mg "_law_due" = some (.ref f) ∧ PySem.W.keepIn K (.ref f) = true ∧ Binds K fd (["_law_form_here", "_law_by"] : List Str) [] := ⟨_, _, o__law_due, glo _ (by simp [faL, fa0, fa1]), F__law_due.kp, b__law_due⟩
  have D__law_kept : ∃ f fd, FnOk P w K mg base (L2.CX P w) 2 f fd (["_law_form_here"] : List Str) (spD K mg (["_law_form_here"] : List Str).length d__law_kept) ∧ mg "_law_kept" = some (.ref f) ∧ PySem.W.keepIn K (.ref f) = true ∧ Binds K fd (["_law_form_here"] : List Str) [] := ⟨_, _, o__law_kept, glo _ (by simp [faL, fa0, fa1]), F__law_kept.kp, b__law_kept⟩
  have D_Curve_over : ∃ C f fd, mg "Curve" = some (.ref C) ∧ Cls K C ∧ Meth K C "over" f ∧ FnOk P w K mg base (L2.CX P w) 7 f fd (["self", "other"] : List Str) (spD K mg (["self", "other"] : List Str).length d_Curve_over) ∧ Binds K fd (["self", "other"] : List Str) [] := ⟨_, _, _, glo _ (by simp [faL, fa0, fa1]), He.cls_ok (c.facts (by simp [faL, fa0, fa1])), He.meth_ok (c.facts (by simp [faL, fa0, fa1])), o_Curve_over, b_Curve_over⟩
  have DK_Curve_over_other : ∃ C f fd, mg "Curve" = some (.ref C) ∧ Cls K C ∧ Meth K C "over" f ∧ FnOk P w K mg base (L2.CX P w) 7 f fd (["self", "other"] : List Str) (spD K mg (["self", "other"] : List Str).length d_Curve_over) ∧ KwB K fd (["self", "other"] : List Str) 1 (["other"] : List Str) [0, 1] := ⟨_, _, _, glo _ (by simp [faL, fa0, fa1]), He.cls_ok (c.facts (by simp [faL, fa0, fa1])), He.meth_ok (c.facts (by simp [faL, fa0, fa1])), o_Curve_over, kwb_of F_Curve_over rfl (fun _ _ _ _ _ _ us ws l1 l2 => match us, ws, l1, l2 with | [_], [_], _, _ => rfl)⟩
  have o__law_good := ok__law_good (P := P) (w := w) (base := base) T DR_Curve_repr D__law_table D__law_due D__law_kept D_Curve_over DK_Curve_over_other F__law_good
  have D__law_cell : ∃ f fd, FnOk P w K mg base (L2.CX P w) 2 f fd (["_law_script", "_law_k"] : List Str) (spD K mg (["_law_script", "_law_k"] : List Str).length d__law_cell) ∧ mg "_law_cell" = some (.ref f) ∧ PySem.W.keepIn K (.ref f) = true ∧ Binds K fd (["_law_script", "_law_k"] : List Str) [] := ⟨_, _, o__law_cell, glo _ (by simp [faL, fa0, fa1]), F__law_cell.kp, b__law_cell⟩
  have D__law_form : ∃ f fd, FnOk P w K mg base (L2.CX P w) 2 f fd (["_law_pile", "_law_size", "_law_most"] : List Str) (spD K mg (["_law_pile", "_law_size", "_law_most"] : List Str).length d__law_form) ∧ mg "_law_form" = some (.ref f) ∧ PySem.W.keepIn K (.ref f) = true ∧ Binds K fd (["_law_pile", "_law_size", "_law_most"] : List Str) [] := ⟨_, _, o__law_form, glo _ (by simp [faL, fa0, fa1]), F__law_form.kp, b__law_form⟩
  have D__law_made : ∃ f fd, FnOk P w K mg base (L2.CX P w) 6 f fd (["_law_form_here"] : List Str) (spD K mg (["_law_form_here"] : List Str).length d__law_made) ∧ mg "_law_made" = some (.ref f) ∧ PySem.W.keepIn K (.ref f) = true ∧ Binds K fd (["_law_form_here"] : List Str) [] := ⟨_, _, o__law_made, glo _ (by simp [faL, fa0, fa1]), F__law_made.kp, b__law_made⟩
  have D__law_product : ∃ f fd, FnOk P w K mg base (L2.CX P w) 1 f fd (["_law_left", "_law_right"] : List Str) (spD K mg (["_law_left", "_law_right"] : List Str).length d__law_product) ∧ mg "_law_product" = some (.ref f) ∧ PySem.W.keepIn K (.ref f) = true ∧ Binds K fd (["_law_left", "_law_right"] : List Str) [] := ⟨_, _, o__law_product, glo _ (by simp [faL, fa0, fa1]), F__law_product.kp, b__law_product⟩
  have DN_Curve_eq : ∃ C f fd ps, mg "Curve" = some (.ref C) ∧ PySem.W.findIn K (.ref C) "__eq__" = some (some (.ref f)) ∧ PySem.W.isFn K (.ref f) = true ∧ ps.length = 2 ∧ FnOk P w K mg base (L2.CX P w) 1 f fd ps (spD K mg ps.length d_Curve_eq) ∧ Binds K fd ps [] ∧ PySem.W.findIn K (.ref C) "__ne__" = some (some (.builtin "object.__ne__")) ∧ PySem.W.subIn K (.ref C) (.type "object") = some true := ⟨_, _, _, (["self", "other"] : List Str), glo _ (by simp [faL, fa0, fa1]), (He.meth_ok (c.facts (f := .meth "Curve" "__eq__") (by simp [faL, fa0, fa1]))).at_, (He.meth_ok (c.facts (f := .meth "Curve" "__eq__") (by simp [faL, fa0, fa1]))).fn, rfl, o_Curve_eq, b_Curve_eq, of_decide_eq_true (ex_at hx 8 rfl), of_decide_eq_true (ex_at hx 9 rfl)⟩
  have D__law_good : ∃ f fd, FnG N0 P w K mg base (L2.CX P w) 8 f fd (["_law_one", "_law_two"] : List Str) (spD K mg (["_law_one", "_law_two"] : List Str).length d__law_good) ∧ mg "_law_good" = some (.ref f) ∧ PySem.W.keepIn K (.ref f) = true ∧ Binds K fd (["_law_one", "_law_two"] : List Str) [] := ⟨_, _, o__law_good, glo _ (by simp [faL, fa0, fa1]), F__law_good.kp, b__law_good⟩
  exact ok_law T D__law_cell D__law_take D__law_form D__law_made D__law_product DN_Curve_eq D_Curve_over D__law_good F_law
end
def lo0 : List Str := ["_wall", "NoCurve", "TooMany", "common", "common_of", "added_to", "thinned", "product", "summed", "divided", "MOST_TERMS", "MOST_DEGREE", "is_number", "is_term", "look_at_terms", "Curve", "term_text", "curve_of", "is_curve", "look_at_curve", "_law_mixed", "_law_cell", "_law_take", "_law_powers", "_law_form", "_law_made", "_law_common", "_law_kept", "_law_product", "_law_table"]
def lo1 : List Str := ["_law_due", "_law_good"]
def loL : List Str := lo0 ++ lo1
end LW

set_option autoImplicit true
namespace LW
open PySem PySem.Spec PyProof.Rows L2 DL
theorem run (w : World) : HandSHeadRun.RunEq Rw (PySem.W.view Rw.prog [36]) hk ob 6000 loL w := by
  intro os
  kernel_rfl
end LW

set_option autoImplicit true
open PySem PySem.W PySem.Calls PyProof.Rows
theorem PySem.Challenge.cw_meetcount_k10_curves_over_curves_holds : PySem.Challenge.rw_meetcount_k10_curves_over_curves.Holds := by
  w_on; o_law
  refine HandSHeadRun.head_any (r := OpenLaw.row PySem.Challenge.rw_meetcount_k10_curves_over_curves) (q := view (OpenLaw.row PySem.Challenge.rw_meetcount_k10_curves_over_curves).prog [36]) (H := LW.hk) (ob := LW.ob) (M := 6000) (loose := LW.loL) (d := HandSHeadRun.topDef (OpenLaw.row PySem.Challenge.rw_meetcount_k10_curves_over_curves).prog 36) (kwd := []) LW.ob_eq
    (by kernel_rfl) (fun s => by kernel_rfl) LW.run (by kernel_rfl) (by kernel_rfl) (by kernel_rfl) (by rfl) (by first | assumption | decide +kernel) (by decide +kernel) ⟨rfl, rfl, rfl, rfl, rfl, by decide +kernel⟩ ?hw ?hc
  case hw => w_witness2
  case hc =>
    refine DL.walk_ofG (γ := DL.N0) (fun H => rfl) (l := PySem.Challenge.rw_meetcount_k10_curves_over_curves) (n := 63) (k := 9) (x := "_law_script") (CX := DL.CXw PySem.Challenge.pw_meetcount_k10_curves_over_curves) rfl (by decide) (by kernel_rfl) ⟨rfl, by decide, by decide⟩ ?F ?G
    case G =>
      intro H s e s' z
      obtain ⟨_, _, _, _, _, _, _, _, _, _, _, _, _, z⟩ := z
      exact z
    case F =>
      intro w mg fa h Y G hmg0
      obtain ⟨K, KX, c⟩ := Y
      have hmg : mg ("law" : PySem.Str) = some (.ref fa) := by
        have e : (HandSHeadRun.topDef (OpenLaw.row PySem.Challenge.rw_meetcount_k10_curves_over_curves).prog 36).name = ("law" : PySem.Str) := by kernel_rfl
        rw [← e]
        exact hmg0
      obtain ⟨fd, hb, hF⟩ := LW.facts (P := (PySem.Challenge.rw_meetcount_k10_curves_over_curves).prog) (w := w) KX G hmg c.t.d c.more
      refine ⟨K, fd, _, KX, hb, fun H a ns hl _ hS => ?_, fun base b1 b2 => DL.fng_w (hF base b1 b2)⟩
      exact DL.law_end (LW.law_true ns) hS
